import PyProof.Rows.All
import Wide.All
import OpenK.AllK
import Wide.FinOn
import PySem.Challenge.RW_nt0419_01
open PySem PySem.W PyProof.Rows
set_option Elab.async false
set_option maxRecDepth 100000
set_option compiler.extract_closed false
namespace Mine
/-- the statements of the text that the head names -/
noncomputable def seenRows : List Nat := [1, 2, 3, 4, 5, 6, 7, 8, 9, 10, 11, 12, 14, 15, 16, 17, 18, 19, 20, 21, 22, 23, 24, 25, 26, 27, 29, 31, 33, 34, 35, 36, 37, 38, 39, 40]
noncomputable def topView : Program := PySem.W.view PySem.Challenge.rw_nt0419_01.row.toRowW.prog seenRows
/-- the run of the top from the booted state on -/
theorem left_of_boot {p q : Program} {loose : List PySem.Str} {Xt : Shared → Bool} {α : Type} {Yf : Shared → α} {Ya : World → α} {N : Nat}
    (e : opening p = plainProg p.main.scope.names) (hN : Nat.ble 600 N = true) (f : ∀ s, fenceModules? p s = some s)
    (h : ∀ (w : World) (os : OsState), (topFrom treeTable p w N ⟨boot_heap w.params, Array.mk [], boot_drawn, boot_toks, os⟩).map (fun s => (openSeen q loose (importedModules p.main.body) Xt true s, Yf s)) = some (openGood q loose, Ya w)) :
    LeftO p q loose Xt Yf Ya N := fun w => by
  obtain ⟨⟨h1, g1, d1, k1, os⟩, e1, e2⟩ := Option.map_eq_some_iff.mp (boot_open e hN f w)
  obtain ⟨rfl, rfl, rfl, rfl⟩ : h1 = boot_heap w.params ∧ g1 = Array.mk [] ∧ d1 = boot_drawn ∧ k1 = boot_toks := by simpa using e2
  unfold openEnds
  rw [e1]
  exact h w os
set_option maxHeartbeats 0 in
theorem said_ok : OpenLaw.wellSaid PySem.Challenge.rw_nt0419_01 = true := by
  rw [PySem.W.Fast.te9446332074065402090]
  unfold PySem.W.Fast.tw9446332074065402090
  iterate 18 (refine look_both ?_ (by decide +kernel))
  unfold PySem.W.Fast.tw17960256430627541270
  iterate 15 (refine look_both ?_ (by decide +kernel))
  unfold PySem.W.Fast.tw12908688711261696721
  iterate 5 (try refine look_both ?_ (by decide +kernel))
  decide +kernel
section
local macro_rules | `(tactic| o_law) => `(tactic| refine holds_law said_ok fun said => ?_)
local macro_rules | `(tactic| o_head $H) => `(tactic| (
  refine holds_open (q := topView) (loose := [PySem.Str.ofString "PIECE_VALUES"]) (Xt := fun s => xlAt (topView) [] s && recOk (RowW.records PySem.Challenge.rw_nt0419_01.row.toRowW) s) (XP := XL (topView) []) (Yf := Hook.obs $H) (Ya := Hook.val $H) (YP := Hook.says $H) (N := 2716) ?hl (Hook.of $H) (Hook.keeps $H) (fun s e => xl_of s (Bool.and_eq_true_iff.mp e).1) XL.keeps (by rfl) (by rfl) (by rfl) (fun s e => recFacts_of (Bool.and_eq_true_iff.mp e).2) (by rfl) (by first | assumption | decide +kernel) (by decide +kernel) ⟨rfl, rfl, rfl, rfl, rfl, by decide +kernel⟩ ?hw ?hc
  (case hl =>
    refine left_of_boot (by kernel_rfl) (by decide +kernel) (fun s => by kernel_rfl) ?hb
    case hb => intro w os; unfold topFrom; rw [PySem.W.Fast.te14082659384304107361, PySem.W.Fast.te4187177175401517315]; kernel_rfl)))
set_option maxHeartbeats 0 in
open_top hd for PySem.Challenge.rw_nt0419_01
end
open PyProof.Rows PySem.Calls
set_option maxHeartbeats 4000000
example : PySem.Challenge.rw_nt0419_01 = PySem.Challenge.rw_nt0419_01 ∧ hd.heap_1 = hd.heap_1 := by k_fill; exact ⟨rfl, rfl⟩
-- part A0
example : True := by w_top off; trivial
section
noncomputable abbrev PR : Program := PySem.Challenge.rw_nt0419_01.row.prog

/-- a contract of the def at f: called with vs in a heap where Pre holds, it writes to no object that is there, and comes back with Out of its value and of (some of) the objects that it made -/
noncomputable def Spec (w : World) (f : Addr) (D : Nat) (Pre : Heap → Prop) (vs : List Value) (Out : Value → List (Addr × Obj) → Prop) : Prop :=
  ∀ (mean : ExcName → Option Value) (mg mb : PySem.Str → Option Value) (dp un : Nat) (gd : Option (List Code)) (cn : PySem.Str) (cs : Scope) (a : Addr) (ccd : Value) (cl : List (PySem.Str × Addr)) (outer : List Env) (A₀ : Around) (base h₀ : Heap) (L : Addr) (m : PySem.Str → Option Value) (news : List (Addr × Obj)) (s : Shared) (Q E : Value → Shared → Prop),
    Below A₀ base outer h₀ → Fr h₀ L s.heap m → (hd.heap_1 w.params).In h₀ → News h₀ L s.heap news → Top topView (looseW topView [PySem.Str.ofString "PIECE_VALUES"]) mean mg mb h₀ → cs.kind = .function → dp + D < recursionLimit → un + 8 * D < cLine → Pre s.heap →
    (∀ v tl h' tk', Fr h₀ L h' m → News h₀ L h' (tl ++ news) → (∀ p ∈ tl, ∀ q ∈ news, p.1 ≠ q.1) → Out v tl → Q v { s with heap := h', toks := tk' }) →
    wpAny (model PySem.Challenge.rw_nt0419_01.row.prog w) (ktrTop dp un gd cn cs L a ccd cl outer) (call (.ref f) vs) Q E s

noncomputable def BodyQ (Out : Value → List (Addr × Obj) → Prop) (g : Heap) (L : Addr) (s : Shared) (fl : Flow) (s' : Shared) : Prop :=
  ∃ h' tk' m' tl, s' = { s with heap := h', toks := tk' } ∧ Fr g L h' m' ∧ News g L h' tl ∧ Out (match fl with | .ret v => v | _ => .none) tl

theorem spec_of {w : World} {f : Addr} {D : Nat} {Pre : Heap → Prop} {vs : List Value} {Out : Value → List (Addr × Obj) → Prop}
    {name qual : PySem.Str} {params : Arguments} {body : List Stmt} {scope : Scope} {dV kV doc pm cdv ct oc : Value} {an od : Option Addr} {osl : Array (Option Value)} (binds : List (PySem.Str × Value))
    (ho : (hd.heap_1 w.params).lookup f = some ⟨oc, od, .func (fnOf name qual params body scope dV kV doc pm an cdv ct), osl⟩)
    (hcd : codeIn (hd.heap_1 w.params) cdv qual = true) (hD : 1 ≤ D)
    (hbind : bindArgs (fnOf name qual params body scope dV kV doc pm an cdv ct) ⟨vs, []⟩ = pure binds)
    (hloc : ∀ y ∈ binds, scope.names.lookup y.1 = some .local)
    (hco : scope.isCoroutine = false) (hgen : scope.isGenerator = false) (hk : scope.kind = .function)
    (hcell : ∀ x ∈ scope.names, x.2 ≠ .cell)
    (h : ∀ (mean : ExcName → Option Value) (mg mb : PySem.Str → Option Value) (dp un : Nat) (gd : Option (List Code)) (outer : List Env) (A₀ : Around) (base g : Heap) (L : Addr) (h₁ : Heap) (tk : Nat) (s : Shared),
      Below A₀ base outer g → Fr g L h₁ (fun y => binds.reverse.lookup y) → (hd.heap_1 w.params).In g → News g L h₁ [] → Top topView (looseW topView [PySem.Str.ofString "PIECE_VALUES"]) mean mg mb g → Pre g →
      dp + D < recursionLimit → un + 8 * D < cLine →
      wpAny (model PySem.Challenge.rw_nt0419_01.row.prog w) (ktrTop (dp + 1) (un + 3) gd qual scope L f cdv [] outer) (execs body (envOf qual scope L f cdv)) (BodyQ Out g L s) (fun _ _ => False) { s with heap := h₁, toks := tk }) :
    Spec w f D Pre vs Out := by
  intro mean mg mb dp un gd cn cs a ccd cl outer A₀ base h₀ L m news s Q E B F X N T hkc hd' hu hpre hret
  have Xs := X.keeps F.keep
  refine wpAny_call ?_
  refine codeAny_call_def (fd := fnOf name qual params body scope dV kV doc pm an cdv ct) (body := body) (binds := binds) (by show dp < _; omega) (Xs _ _ ho) rfl (T.nolimit.keeps F.keep) (codeRec_of Xs hcd) rfl (BindsTo.of_eq hbind) hcell hloc (fun h₁ hns hk₁ => ?_) hco hgen hk
  have F₁ : Fr s.heap s.heap.objs.size h₁ (fun x => binds.reverse.lookup x) := ⟨hns, hk₁, Nat.le_refl _⟩
  have B₁ := pushX (env := envX cn cs L a ccd cl) B F rfl hkc
  refine wpAny_mono (h mean mg mb dp un gd (envX cn cs L a ccd cl :: outer) _ base s.heap s.heap.objs.size h₁ _ s B₁ F₁ Xs News.nil (T.keeps F.keep) hpre hd' hu) (fun fl s' hq => ?_) fun _ _ e => e.elim
  obtain ⟨h', tk', m', tl, rfl, F', N', ho'⟩ := hq
  obtain ⟨oL, es, ep, hL, _⟩ := F.ns
  refine hret _ tl h' tk' (F.after F'.keep) (fun p hp => ?_) (fun p hp q hq e => ?_) ho'
  · rcases List.mem_append.mp hp with hp | hp
    · refine ⟨(N' p hp).1, fun e => ?_, ?_⟩
      · have := (N' p hp).2.2
        rw [e, hL] at this
        cases this
      · cases q : h₀.get? p.1 with
        | none => rfl
        | some o =>
          have := (N' p hp).2.2
          rw [F.keep _ _ q] at this
          cases this
    · exact ⟨F'.keep _ _ (N p hp).1, (N p hp).2⟩
  · have h1 := (N q hq).1
    rw [← e, (N' p hp).2.2] at h1
    cases h1

theorem BodyQ.mk {Out : Value → List (Addr × Obj) → Prop} {g : Heap} {L : Addr} {s : Shared} {fl : Flow} {h' : Heap} {tk' : Nat} {m' : PySem.Str → Option Value} (tl : List (Addr × Obj)) {news : List (Addr × Obj)}
    (F : Fr g L h' m') (N : News g L h' news) (hs : ∀ p ∈ tl, p ∈ news) (ho : Out (match fl with | .ret v => v | _ => .none) tl) : BodyQ Out g L s fl { s with heap := h', toks := tk' } :=
  ⟨h', tk', m', tl, rfl, F, fun p hp => N p (hs p hp), ho⟩
theorem BodyQ.nil {O : Value → Prop} {g : Heap} {L : Addr} {s : Shared} {fl : Flow} {h' : Heap} {tk' : Nat} {m' : PySem.Str → Option Value}
    (F : Fr g L h' m') (ho : O (match fl with | .ret v => v | _ => .none)) : BodyQ (fun v tl => tl = [] ∧ O v) g L s fl { s with heap := h', toks := tk' } :=
  ⟨h', tk', m', [], rfl, F, News.nil, rfl, ho⟩
theorem Spec.weak {w : World} {f : Addr} {D : Nat} {Pre Pre' : Heap → Prop} {vs : List Value} {Out : Value → List (Addr × Obj) → Prop} (C : Spec w f D Pre vs Out) (h : ∀ h, Pre' h → Pre h) : Spec w f D Pre' vs Out :=
  fun mean mg mb dp un gd cn cs a ccd cl outer A₀ base h₀ L m news s Q E B F X N T hk hd' hu hp ret => C mean mg mb dp un gd cn cs a ccd cl outer A₀ base h₀ L m news s Q E B F X N T hk hd' hu (h _ hp) ret
theorem Spec.use {w : World} {f : Addr} {D : Nat} {Pre : Heap → Prop} {vs : List Value} {Out : Value → List (Addr × Obj) → Prop} (C : Spec w f D Pre vs Out)
    {mean : ExcName → Option Value} {mg mb : PySem.Str → Option Value} {dp un : Nat} {gd : Option (List Code)} {cn : PySem.Str} {cs : Scope} {a : Addr} {ccd : Value} {cl : List (PySem.Str × Addr)} {outer : List Env} {A₀ : Around} {base h₀ : Heap} {L : Addr} {m : PySem.Str → Option Value} {news : List (Addr × Obj)} {s : Shared} {Q E : Value → Shared → Prop}
    (B : Below A₀ base outer h₀) (F : Fr h₀ L s.heap m) (X : (hd.heap_1 w.params).In h₀) (N : News h₀ L s.heap news) (T : Top topView (looseW topView [PySem.Str.ofString "PIECE_VALUES"]) mean mg mb h₀) (hk : cs.kind = .function) (hd' : dp + D < recursionLimit) (hu : un + 8 * D < cLine) (hp : Pre s.heap)
    (ret : ∀ v tl h' tk', Fr h₀ L h' m → News h₀ L h' (tl ++ news) → (∀ p ∈ tl, ∀ q ∈ news, p.1 ≠ q.1) → Out v tl → Q v { s with heap := h', toks := tk' }) :
    wpAny (model PySem.Challenge.rw_nt0419_01.row.prog w) (ktrTop dp un gd cn cs L a ccd cl outer) (call (.ref f) vs) Q E s :=
  C mean mg mb dp un gd cn cs a ccd cl outer A₀ base h₀ L m news s Q E B F X N T hk hd' hu hp ret
theorem Spec.use0 {w : World} {f : Addr} {D : Nat} {Pre : Heap → Prop} {vs : List Value} {O : Value → Prop} (C : Spec w f D Pre vs (fun v tl => tl = [] ∧ O v))
    {mean : ExcName → Option Value} {mg mb : PySem.Str → Option Value} {dp un : Nat} {gd : Option (List Code)} {cn : PySem.Str} {cs : Scope} {a : Addr} {ccd : Value} {cl : List (PySem.Str × Addr)} {outer : List Env} {A₀ : Around} {base h₀ : Heap} {L : Addr} {m : PySem.Str → Option Value} {news : List (Addr × Obj)} {s : Shared} {Q E : Value → Shared → Prop}
    (B : Below A₀ base outer h₀) (F : Fr h₀ L s.heap m) (X : (hd.heap_1 w.params).In h₀) (N : News h₀ L s.heap news) (T : Top topView (looseW topView [PySem.Str.ofString "PIECE_VALUES"]) mean mg mb h₀) (hk : cs.kind = .function) (hd' : dp + D < recursionLimit) (hu : un + 8 * D < cLine) (hp : Pre s.heap)
    (ret : ∀ v h' tk', Fr h₀ L h' m → News h₀ L h' news → O v → Q v { s with heap := h', toks := tk' }) :
    wpAny (model PySem.Challenge.rw_nt0419_01.row.prog w) (ktrTop dp un gd cn cs L a ccd cl outer) (call (.ref f) vs) Q E s :=
  C.use B F X N T hk hd' hu hp fun v tl h' tk' F' N' _ ⟨e, o⟩ => by
    subst e
    exact ret v h' tk' F' N' o

theorem Spec.useI {w : World} {f : Addr} {D : Nat} {Pre : Heap → Prop} {vs : List Value} {n : Int} (C : Spec w f D Pre vs (fun v tl => tl = [] ∧ ∃ t, v = .int n t))
    {mean : ExcName → Option Value} {mg mb : PySem.Str → Option Value} {dp un : Nat} {gd : Option (List Code)} {cn : PySem.Str} {cs : Scope} {a : Addr} {ccd : Value} {cl : List (PySem.Str × Addr)} {outer : List Env} {A₀ : Around} {base h₀ : Heap} {L : Addr} {m : PySem.Str → Option Value} {news : List (Addr × Obj)} {s : Shared} {Q E : Value → Shared → Prop}
    (B : Below A₀ base outer h₀) (F : Fr h₀ L s.heap m) (X : (hd.heap_1 w.params).In h₀) (N : News h₀ L s.heap news) (T : Top topView (looseW topView [PySem.Str.ofString "PIECE_VALUES"]) mean mg mb h₀) (hk : cs.kind = .function) (hd' : dp + D < recursionLimit) (hu : un + 8 * D < cLine) (hp : Pre s.heap)
    (ret : ∀ (t : Tok) h' tk', Fr h₀ L h' m → News h₀ L h' news → Q (.int n t) { s with heap := h', toks := tk' }) :
    wpAny (model PySem.Challenge.rw_nt0419_01.row.prog w) (ktrTop dp un gd cn cs L a ccd cl outer) (call (.ref f) vs) Q E s :=
  C.use0 B F X N T hk hd' hu hp fun v h' tk' F' N' ⟨t, e⟩ => by
    subst e
    exact ret t h' tk' F' N'
theorem Spec.useE {w : World} {f : Addr} {D : Nat} {Pre : Heap → Prop} {vs : List Value} {x : Value} (C : Spec w f D Pre vs (fun v tl => tl = [] ∧ v = x))
    {mean : ExcName → Option Value} {mg mb : PySem.Str → Option Value} {dp un : Nat} {gd : Option (List Code)} {cn : PySem.Str} {cs : Scope} {a : Addr} {ccd : Value} {cl : List (PySem.Str × Addr)} {outer : List Env} {A₀ : Around} {base h₀ : Heap} {L : Addr} {m : PySem.Str → Option Value} {news : List (Addr × Obj)} {s : Shared} {Q E : Value → Shared → Prop}
    (B : Below A₀ base outer h₀) (F : Fr h₀ L s.heap m) (X : (hd.heap_1 w.params).In h₀) (N : News h₀ L s.heap news) (T : Top topView (looseW topView [PySem.Str.ofString "PIECE_VALUES"]) mean mg mb h₀) (hk : cs.kind = .function) (hd' : dp + D < recursionLimit) (hu : un + 8 * D < cLine) (hp : Pre s.heap)
    (ret : ∀ h' tk', Fr h₀ L h' m → News h₀ L h' news → Q x { s with heap := h', toks := tk' }) :
    wpAny (model PySem.Challenge.rw_nt0419_01.row.prog w) (ktrTop dp un gd cn cs L a ccd cl outer) (call (.ref f) vs) Q E s :=
  C.use0 (O := fun v => v = x) B F X N T hk hd' hu hp fun v h' tk' F' N' e => by
    subst e
    exact ret h' tk' F' N'

noncomputable def Stop (P : Prop) : Prop := P
theorem Stop.of {P : Prop} (h : Stop P) : P := h
theorem Stop.go {P : Prop} (h : P) : Stop P := h



end
-- part A2
example : True := by w_top off; trivial
section
theorem spec_ofC {w : World} {f : Addr} {D : Nat} {Pre : Heap → Prop} {vs : List Value} {Out : Value → List (Addr × Obj) → Prop}
    {name qual : PySem.Str} {params : Arguments} {body : List Stmt} {scope : Scope} {dV kV doc pm cdv ct oc : Value} {an od : Option Addr} {osl : Array (Option Value)} (binds : List (PySem.Str × Value))
    (ho : (hd.heap_1 w.params).lookup f = some ⟨oc, od, .func (fnOf name qual params body scope dV kV doc pm an cdv ct), osl⟩)
    (hcd : codeIn (hd.heap_1 w.params) cdv qual = true) (hD : 1 ≤ D)
    (hbind : bindArgs (fnOf name qual params body scope dV kV doc pm an cdv ct) ⟨vs, []⟩ = pure binds)
    (hkind : (binds.all fun y => scope.names.lookup y.1 == some .local || scope.names.lookup y.1 == some .cell) = true)
    (hco : scope.isCoroutine = false) (hgen : scope.isGenerator = false) (hk : scope.kind = .function)
    (hnd : ((cellsFrom 0 scope.names []).map (·.1)).Nodup)
    (h : ∀ (mean : ExcName → Option Value) (mg mb : PySem.Str → Option Value) (dp un : Nat) (gd : Option (List Code)) (outer : List Env) (A₀ : Around) (base g : Heap) (L : Addr) (h₁ : Heap) (tk : Nat) (s : Shared) (cells : List (Addr × Obj)),
      Below A₀ base outer g → Fr g L h₁ (bindL (envOfC qual scope L f cdv).kindOf binds fun _ => none) → (hd.heap_1 w.params).In g → News g L h₁ cells → CellsAre (bindC (envOfC qual scope L f cdv).kindOf binds fun _ => none) (cellsFrom (L + 1) scope.names []) cells →
      Top topView (looseW topView [PySem.Str.ofString "PIECE_VALUES"]) mean mg mb g → Pre g →
      dp + D < recursionLimit → un + 8 * D < cLine →
      wpAny (model PySem.Challenge.rw_nt0419_01.row.prog w) (ktrTop (dp + 1) (un + 3) gd qual scope L f cdv (cellsFrom (L + 1) scope.names []) outer) (execs body (envOfC qual scope L f cdv)) (BodyQ Out g L s) (fun _ _ => False) { s with heap := h₁, toks := tk }) :
    Spec w f D Pre vs Out := by
  intro mean mg mb dp un gd cn cs a ccd cl outer A₀ base h₀ L m news s Q E B F X N T hkc hd' hu hpre hret
  have Xs := X.keeps F.keep
  refine wpAny_call ?_
  refine codeAny_call_function (by show dp < _; omega) (Xs _ _ ho) rfl hco hgen rfl (codeRec_of Xs hcd) ((BindsTo.of_eq hbind) _ _ _ _ ?_)
  refine wpAny_newFunctionEnv_cells hk (kindsX hkind _) fun env' he s' x => ?_
  subst he
  refine ⟨(T.nolimit.keeps F.keep).keeps x.toInCall.keep, codeAny_func ?_⟩
  obtain ⟨h₁, tk, rfl, _⟩ := x.done
  have hk₁ := x.toInCall.keep
  obtain ⟨cells, NC, Y⟩ := Cl.news (h₀ := s.heap) (Nat.le_refl _) fun n c hm => ⟨x.cell n c (lookup_of_mem_nodup (cellsFrom_names scope.names 0 (s.heap.objs.size + 1) [] [] rfl ▸ hnd) hm), x.above n c hm⟩
  have F₁ : Fr s.heap s.heap.objs.size h₁ _ := ⟨x.toInCall.ns, hk₁, Nat.le_refl _⟩
  have B₁ := pushX (env := envX cn cs L a ccd cl) B F rfl hkc
  refine wpAny_mono (h mean mg mb dp un gd (envX cn cs L a ccd cl :: outer) _ base s.heap s.heap.objs.size h₁ tk s cells B₁ F₁ Xs NC Y (T.keeps F.keep) hpre hd' hu) (fun fl s' hq => ?_) fun _ _ e => e.elim
  obtain ⟨h', tk', m', tl, rfl, F', N', ho'⟩ := hq
  obtain ⟨oL, es, ep, hL, _⟩ := F.ns
  refine hret _ tl h' tk' (F.after F'.keep) (fun p hp => ?_) (fun p hp q hq e => ?_) ho'
  · rcases List.mem_append.mp hp with hp | hp
    · refine ⟨(N' p hp).1, fun e => ?_, ?_⟩
      · have := (N' p hp).2.2
        rw [e, hL] at this
        cases this
      · cases q : h₀.get? p.1 with
        | none => rfl
        | some o =>
          have := (N' p hp).2.2
          rw [F.keep _ _ q] at this
          cases this
    · exact ⟨F'.keep _ _ (N p hp).1, (N p hp).2⟩
  · have h1 := (N q hq).1
    rw [← e, (N' p hp).2.2] at h1
    cases h1



end
-- part P1
example : True := by w_top off; trivial
section
noncomputable def pcF : Nat → Nat → Nat
  | 0, _ => 0
  | k + 1, n => n % 2 + pcF k (n / 2)
noncomputable def pc (n : Nat) : Nat := pcF n n
theorem pcF_zero : ∀ k, pcF k 0 = 0
  | 0 => rfl
  | k + 1 => by show 0 % 2 + pcF k (0 / 2) = 0; rw [show (0 : Nat) / 2 = 0 from rfl, pcF_zero k]
theorem pcF_same : ∀ k j n, n ≤ k → n ≤ j → pcF k n = pcF j n
  | 0, j, n, h, _ => by
    have e : n = 0 := Nat.le_zero.mp h
    subst e
    exact (pcF_zero j).symm
  | k + 1, 0, n, _, h => by
    have e : n = 0 := Nat.le_zero.mp h
    subst e
    exact pcF_zero (k + 1)
  | k + 1, j + 1, n, h, h' => by
    show n % 2 + pcF k (n / 2) = n % 2 + pcF j (n / 2)
    rw [pcF_same k j (n / 2) (by lia) (by lia)]
theorem pc_zero : pc 0 = 0 := rfl
theorem pc_rec (n : Nat) : pc n = n % 2 + pc (n / 2) := by
  cases n with
  | zero => rfl
  | succ m =>
    show (m + 1) % 2 + pcF m ((m + 1) / 2) = _
    rw [pcF_same m ((m + 1) / 2) ((m + 1) / 2) (by lia) (Nat.le_refl _)]
    rfl

theorem and_pred (n : Nat) (h : 0 < n) : (n &&& (n - 1)) % 2 = 0 ∧ (n &&& (n - 1)) / 2 = if n % 2 = 1 then n / 2 else (n / 2) &&& (n / 2 - 1) := by
  constructor
  · rw [Nat.and_mod_two_pow (n := 1)] <;> first | skip
    have : n % 2 = 0 ∨ n % 2 = 1 := by lia
    rcases this with h1 | h1
    · simp [h1]
    · have : (n - 1) % 2 = 0 := by lia
      simp [this]
  · rw [Nat.and_div_two]
    by_cases h1 : n % 2 = 1
    · have : (n - 1) / 2 = n / 2 := by lia
      simp [h1, this]
    · have : (n - 1) / 2 = n / 2 - 1 := by lia
      simp [h1, this]

theorem pc_step (n : Nat) (h : 0 < n) : pc (n &&& (n - 1)) + 1 = pc n := by
  induction n using Nat.strongRecOn with
  | ind n ih =>
    obtain ⟨a, b⟩ := and_pred n h
    rw [pc_rec (n &&& (n - 1)), pc_rec n, a, b]
    by_cases h1 : n % 2 = 1
    · simp [h1]; lia
    · have h2 : 0 < n / 2 := by lia
      have := ih (n / 2) (by lia) h2
      simp only [h1, if_false]
      lia

theorem and_pred_lt (n : Nat) (h : 0 < n) : n &&& (n - 1) < n := Nat.lt_of_le_of_lt Nat.and_le_right (by lia)

theorem bitAnd_nat (x y : Nat) : Builtin.bitAnd (x : Int) (y : Int) = ((x &&& y : Nat) : Int) := by
  unfold Builtin.bitAnd
  have h1 : decide ((0 : Int) ≤ (x : Int)) = true := by simp
  have h2 : decide ((0 : Int) ≤ (y : Int)) = true := by simp
  rw [h1, h2]
  simp

theorem bitAnd_pred (x : Nat) (h : 0 < x) : Builtin.bitAnd (x : Int) ((x : Int) - 1) = ((x &&& (x - 1) : Nat) : Int) := by
  have e : (x : Int) - 1 = ((x - 1 : Nat) : Int) := by lia
  rw [e, bitAnd_nat]



end
-- part P2
example : True := by w_top off; trivial
section
noncomputable def bw : List Bool → Nat
  | [] => 0
  | b :: l => (if b then 1 else 0) + 2 * bw l

theorem bw_mod (b : Bool) (l : List Bool) : bw (b :: l) % 2 = if b then 1 else 0 := by
  cases b <;> simp [bw]
theorem bw_div (b : Bool) (l : List Bool) : bw (b :: l) / 2 = bw l := by
  cases b <;> simp [bw] <;> lia
theorem pc_bw : ∀ l : List Bool, pc (bw l) = l.count true
  | [] => by simp [bw, pc_zero]
  | b :: l => by
    rw [pc_rec, bw_mod, bw_div, pc_bw l]
    cases b <;> simp <;> lia
theorem bw_and : ∀ l₁ l₂ : List Bool, bw l₁ &&& bw l₂ = bw (List.zipWith (fun a b => a && b) l₁ l₂)
  | [], _ => by simp [bw]
  | _ :: _, [] => by simp [bw]
  | a :: l₁, b :: l₂ => by
    have h1 : (bw (a :: l₁) &&& bw (b :: l₂)) / 2 = bw (List.zipWith (fun a b => a && b) l₁ l₂) := by
      rw [Nat.and_div_two, bw_div, bw_div, bw_and l₁ l₂]
    have h2 : (bw (a :: l₁) &&& bw (b :: l₂)) % 2 = if (a && b) then 1 else 0 := by
      have := Nat.and_mod_two_pow (n := 1) (a := bw (a :: l₁)) (b := bw (b :: l₂))
      rw [show (2:Nat) ^ 1 = 2 from rfl, bw_mod, bw_mod] at this
      rw [this]
      cases a <;> cases b <;> simp
    have h3 := Nat.div_add_mod (bw (a :: l₁) &&& bw (b :: l₂)) 2
    rw [h1, h2] at h3
    rw [← h3]
    show _ = (if (a && b) = true then 1 else 0) + 2 * bw (List.zipWith (fun a b => a && b) l₁ l₂)
    lia
theorem bw_lt : ∀ l : List Bool, bw l < 2 ^ l.length
  | [] => by simp [bw]
  | b :: l => by
    have := bw_lt l
    cases b <;> simp [bw, Nat.pow_succ] <;> lia
theorem bw_snoc : ∀ (l : List Bool) (b : Bool), bw (l ++ [b]) = bw l + (if b then 2 ^ l.length else 0)
  | [], b => by cases b <;> simp [bw]
  | a :: l, b => by
    have := bw_snoc l b
    cases a <;> cases b <;> simp [bw, Nat.pow_succ] at this ⊢ <;> lia
theorem bw_or (l : List Bool) : bw l ||| 2 ^ l.length = bw l + 2 ^ l.length := by
  have h := Nat.two_pow_add_eq_or_of_lt (bw_lt l) 1
  rw [Nat.mul_one] at h
  rw [Nat.or_comm, ← h, Nat.add_comm]
theorem bw_zero : ∀ l : List Bool, bw l = 0 ↔ l.count true = 0
  | [] => by simp [bw]
  | b :: l => by
    have := bw_zero l
    cases b <;> simp [bw] <;> first | exact this | lia

theorem bitOr_nat (x y : Nat) : Builtin.bitOr (x : Int) (y : Int) = ((x ||| y : Nat) : Int) := by
  have e : ∀ n : Nat, Builtin.bitNot (n : Int) = -((n : Int)) - 1 := fun _ => rfl
  have e2 : ∀ n : Nat, Builtin.bitNot (-((n : Int)) - 1) = (n : Int) := fun n => by show -(-((n : Int)) - 1) - 1 = _; lia
  show Builtin.bitNot (Builtin.bitAnd (Builtin.bitNot (x : Int)) (Builtin.bitNot (y : Int))) = _
  rw [e, e]
  unfold Builtin.bitAnd
  have h1 : decide ((0 : Int) ≤ -((x : Int)) - 1) = false := decide_eq_false (by lia)
  have h2 : decide ((0 : Int) ≤ -((y : Int)) - 1) = false := decide_eq_false (by lia)
  rw [h1, h2]
  dsimp only
  rw [e2, e2, e, Int.toNat_natCast, Int.toNat_natCast, ← e, e, e2]

theorem BodyQ.int {g : Heap} {L : Addr} {s : Shared} {h' : Heap} {tk' : Nat} {m' : PySem.Str → Option Value} {x y : Int} {t : Tok} (F : Fr g L h' m') (e : x = y) :
    BodyQ (fun v tl => tl = [] ∧ ∃ t', v = .int y t') g L s (.ret (.int x t)) { s with heap := h', toks := tk' } := BodyQ.nil F ⟨t, by rw [← e]⟩
theorem BodyQ.bool {g : Heap} {L : Addr} {s : Shared} {h' : Heap} {tk' : Nat} {m' : PySem.Str → Option Value} {x y : Bool} (F : Fr g L h' m') (e : x = y) :
    BodyQ (fun v tl => tl = [] ∧ v = .bool y) g L s (.ret (.bool x)) { s with heap := h', toks := tk' } := BodyQ.nil F (by rw [← e])

theorem fr_bounds {f r : Nat} (h1 : 2 ≤ f) (h2 : f ≤ 8) (h3 : 3 ≤ r) (h4 : r ≤ 8) : (f : Int) * (r : Int) = ((f * r : Nat) : Int) ∧ 6 ≤ f * r ∧ f * r ≤ 64 ∧ 6 ≤ (f : Int) * (r : Int) ∧ (f : Int) * (r : Int) ≤ 64 := by
  have a : 2 * 3 ≤ f * r := Nat.mul_le_mul h1 h3
  have b : f * r ≤ 8 * 8 := Nat.mul_le_mul h2 h4
  have c : (f : Int) * (r : Int) = ((f * r : Nat) : Int) := (Int.natCast_mul f r).symm
  refine ⟨c, by lia, by lia, by lia, by lia⟩



end
-- part A1
example : True := by w_top off; trivial
section
structure PosRec where
  (dp ag dg ak as : Addr)
  (es eg : List DictEntry)
  (np ng ck cs : Nat)
  (kv sv : List Value)
  (KI SI : List Int)

noncomputable def PosRec.news (P : PosRec) (ap : Addr) : List (Addr × Obj) := [(ap, instObj 144 P.dp), (P.dp, dictOf P.es P.np), (P.ag, instObj 123 P.dg), (P.dg, dictOf P.eg P.ng), (P.ak, listOf P.kv.toArray P.ck), (P.as, listOf P.sv.toArray P.cs)]

structure PosRec.Ok (P : PosRec) (f r : Nat) (K S : Nat → Nat) (sd : Nat) : Prop where
  geo : getL (PySem.Str.ofString "geo") P.es = some (some (.ref P.ag))
  kinds : getL (PySem.Str.ofString "kinds") P.es = some (some (.ref P.ak))
  sides : getL (PySem.Str.ofString "sides") P.es = some (some (.ref P.as))
  side : ∃ t, getL (PySem.Str.ofString "side") P.es = some (some (.int (sd : Int) t))
  files : ∃ t, getL (PySem.Str.ofString "files") P.eg = some (some (.int (f : Int) t))
  size : ∃ t, getL (PySem.Str.ofString "size") P.eg = some (some (.int ((f : Int) * (r : Int)) t))
  kv : IntsAre P.kv P.KI
  sv : IntsAre P.sv P.SI
  lk : P.KI.length = 7
  ls : P.SI.length = 2
  k : ∀ i < 7, P.KI.getD i 0 = ((K i : Nat) : Int)
  s : ∀ i < 2, P.SI.getD i 0 = ((S i : Nat) : Int)
  hf : 2 ≤ f ∧ f ≤ 8
  hr : 3 ≤ r ∧ r ≤ 8
  short : P.es.length ≤ 900

noncomputable def PosAt (h : Heap) (ap : Addr) (f r : Nat) (K S : Nat → Nat) (sd : Nat) : Prop :=
  ∃ P : PosRec, (∀ p ∈ P.news ap, h.get? p.1 = some p.2) ∧ P.Ok f r K S sd

theorem PosAt.keeps {h h' : Heap} {ap : Addr} {f r : Nat} {K S : Nat → Nat} {sd : Nat} (x : PosAt h ap f r K S sd) (hs : ∀ b o, h.get? b = some o → h'.get? b = some o) : PosAt h' ap f r K S sd := by
  obtain ⟨P, a, b⟩ := x
  exact ⟨P, fun p hp => hs _ _ (a p hp), b⟩

theorem isList_of {h : Heap} {a : Addr} {vs : List Value} {n : Nat} (x : h.get? a = some (listOf vs.toArray n)) : h.IsList a vs.toArray := ⟨_, x, rfl, n, rfl⟩
theorem inst_of_base {g h : Heap} {L x C dx : Addr} {m : PySem.Str → Option Value} {od : Obj} (F : Fr g L h m) (h1 : g.get? x = some (instObj C dx)) (h2 : g.get? dx = some od) :
    InstAt h x (instObj C dx) C (some od) := ⟨F.keep _ _ h1, rfl, rfl, F.keep _ _ h2⟩

/-- the ledger less the iterator -/
inductive Rem (I : Addr) (it : Obj) : List (Addr × Obj) → List (Addr × Obj) → Prop
  | head {r} : (∀ p ∈ r, p.1 ≠ I) → Rem I it ((I, it) :: r) r
  | tail {p r r'} : p.1 ≠ I → Rem I it r r' → Rem I it (p :: r) (p :: r')
theorem Rem.spec {I : Addr} {it : Obj} {a b : List (Addr × Obj)} (h : Rem I it a b) : (∀ p ∈ (I, it) :: b, p ∈ a) ∧ (∀ p ∈ b, p.1 ≠ I) := by
  induction h with
  | head h => exact ⟨fun p hp => hp, h⟩
  | @tail p r r' hne _ ih =>
    refine ⟨fun q hq => ?_, fun q hq => ?_⟩
    · rcases List.mem_cons.mp hq with rfl | hq
      · exact List.mem_cons_of_mem _ (ih.1 _ (.head _))
      · rcases List.mem_cons.mp hq with rfl | hq
        · exact .head _
        · exact List.mem_cons_of_mem _ (ih.1 _ (List.mem_cons_of_mem _ hq))
    · rcases List.mem_cons.mp hq with rfl | hq
      · exact hne
      · exact ih.2 q hq
theorem unrEnd_rem {h₀ : Heap} {L I : Addr} {it : Obj} {rest : (PySem.Str → Option Value) → List (Addr × Obj) → Prop} {s₁ : Shared} {h' : Heap} {tk : Nat} {m' : PySem.Str → Option Value} {all news' : List (Addr × Obj)} (F : Fr h₀ L h' m') (N : News h₀ L h' all)
    (R : Rem I it all news') (r : rest m' news') : UnrEnd h₀ L s₁ I it rest { s₁ with heap := h', toks := tk } := UnrEnd.intro F N news' R.spec.1 R.spec.2 r
theorem unrEndW_rem {h₀ : Heap} {L I : Addr} {it : Obj} {rest : (PySem.Str → Option Value) → List (Addr × Obj) → Prop} {s₁ : Shared} {h' : Heap} {tk : Nat} {m' : PySem.Str → Option Value} {all news' : List (Addr × Obj)} (F : Fr h₀ L h' m') (N : News h₀ L h' all)
    (R : Rem I it all news') (r : rest m' news') : UnrEndW h₀ L s₁ [(I, it)] rest { s₁ with heap := h', toks := tk } :=
  ⟨h', tk, m', news', rfl, F, fun p hp => N p (R.spec.1 p hp), fun p hp q hq => by rw [List.mem_singleton.mp hq]; exact R.spec.2 p hp, r⟩
section
variable {prog : Program} {w : World} {A : Around} {E : Value → Shared → Prop} {s : Shared} {h₀ : Heap} {L D : Addr} {m : PySem.Str → Option Value} {news news' : List (Addr × Obj)} {its its' : Array Value} {n : Nat} {k : Int} {t : Tok} {v : Value}
theorem made_item {l : List Value} {value slice : PySem.Expr} {Q : Value → Shared → Prop} (N : News h₀ L s.heap news) (hm : (D, listOf l.toArray n) ∈ news) (h0 : decide (0 ≤ k ∧ k < 2 ^ 63) = true) (hx : l[k.toNat]? = some v) (h : Q v s)
    (hs : subscripted slice false (.ref D) (.int k t) = operate [.ref D, .int k t] (getItem (.ref D) (.int k t)) := by with_unfolding_all rfl) :
    wpAny (model prog w) A (subscriptTail value slice (.ref D) (.int k t)) Q E s := by
  have hl : s.heap.IsList D l.toArray := ⟨_, (N _ hm).1, rfl, n, rfl⟩
  have h1 := of_decide_eq_true h0
  exact tail_any hl.typeIs slot_list_getitem.lookup (wpAny_getItem_list hl h1.1 h1.2 (by simpa using hx) h) hs
theorem made_set {l l' : List Value} {Q : Unit → Shared → Prop} (F : Fr h₀ L s.heap m) (N : News h₀ L s.heap news) (h0 : decide (0 ≤ k ∧ k < 2 ^ 63 ∧ k < l.length) = true) (he : l.set k.toNat v = l') (U : Upd D (listOf l.toArray n) (listOf l'.toArray n) news news')
    (h : ∀ h', Fr h₀ L h' m → News h₀ L h' news' → Q () { s with heap := h' }) : wpAny (model prog w) A (setItem (.ref D) (.int k t) v) Q E s := by
  obtain ⟨pre, post, rfl, rfl, a, b⟩ := U.split
  have z := N (D, listOf l.toArray n) (List.mem_append.mpr (.inr (.head _)))
  have h1 := of_decide_eq_true h0
  refine ki_setAt z.1 h1.1 h1.2.1 (by simpa using h1.2.2) (h _ (F.change (Heap.SameBut.update ..) z.2.1 z.2.2) (ki_turn _ N a b ?_ ?_))
  · show l.toArray.setIfInBounds k.toNat v = l'.toArray
    rw [← he]
    apply Array.toList_inj.mp
    simp
  · rw [← he]
    simp
end
theorem allLt_ne {d : Addr} {l : List (Addr × Obj)} (h : AllLt d l) : ∀ p ∈ l, p.1 ≠ d := fun p hp => Nat.ne_of_lt (kst_ltOf h p hp)
theorem lt_ne {d : Addr} {l : List (Addr × Obj)} (h : ∀ p ∈ l, p.1 < d) : ∀ p ∈ l, p.1 ≠ d := fun p hp => Nat.ne_of_lt (h p hp)

noncomputable def StMark (_ : Shared) : Prop := True
theorem stMark (s : Shared) : StMark s := trivial
theorem tok_gen {α : Type} {prog : Program} {w : World} {A : Around} {t : Sem α} {Q : α → Shared → Prop} {E : Value → Shared → Prop} {s₀ : Shared} (_ : StMark s₀) {h : Heap} {k : Nat}
    (x : ∀ k', wpAny (model prog w) A t Q E { s₀ with heap := h, toks := k' }) : wpAny (model prog w) A t Q E { s₀ with heap := h, toks := k } := x k
theorem roomD {dp D D' : Nat} (h : dp + D' < recursionLimit) (e : Nat.ble (D + 1) D' = true) : dp + 1 + D < recursionLimit := by
  have := Nat.le_of_ble_eq_true e
  omega
theorem roomU {un D D' : Nat} (h : un + 8 * D' < cLine) (e : Nat.ble (8 * D + 3) (8 * D') = true) : un + 3 + 8 * D < cLine := by
  have := Nat.le_of_ble_eq_true e
  omega
theorem allLt_nth {d : Addr} : ∀ {l : List (Addr × Obj)} (_ : AllLt d l) (i : Nat) {a : Addr} (_ : (l[i]?).map (·.1) = some a), @LT.lt Nat _ a d
  | p :: _, h, 0, a, e => by
    have t : p.1 = a := by simpa using e
    exact t ▸ h.1
  | _ :: _, h, i + 1, _, e => allLt_nth h.2 i (by simpa using e)
theorem allLt_up {x d : Addr} : ∀ {l : List (Addr × Obj)} (_ : AllLt x l) (_ : @LT.lt Nat _ x d), AllLt d ((x, instObj 0 0) :: l)
  | [], _, h => ⟨h, trivial⟩
  | _ :: _, g, h => ⟨h, Nat.lt_trans g.1 h, (allLt_up g.2 h).2⟩
theorem ne_nth {d a : Addr} {l : List (Addr × Obj)} (h : AllLt d l) (i : Nat) (e : (l[i]?).map (·.1) = some a) : a ≠ d := Nat.ne_of_lt (allLt_nth h i e)
theorem pm1 {P : PosRec} {h : Heap} {ap : Addr} (hm : ∀ p ∈ P.news ap, h.get? p.1 = some p.2) : h.get? ap = some (instObj 144 P.dp) := hm (ap, instObj 144 P.dp) (by simp [PosRec.news])
theorem pm2 {P : PosRec} {h : Heap} {ap : Addr} (hm : ∀ p ∈ P.news ap, h.get? p.1 = some p.2) : h.get? P.dp = some (dictOf P.es P.np) := hm (P.dp, dictOf P.es P.np) (by simp [PosRec.news])
theorem pm3 {P : PosRec} {h : Heap} {ap : Addr} (hm : ∀ p ∈ P.news ap, h.get? p.1 = some p.2) : h.get? P.ag = some (instObj 123 P.dg) := hm (P.ag, instObj 123 P.dg) (by simp [PosRec.news])
theorem pm4 {P : PosRec} {h : Heap} {ap : Addr} (hm : ∀ p ∈ P.news ap, h.get? p.1 = some p.2) : h.get? P.dg = some (dictOf P.eg P.ng) := hm (P.dg, dictOf P.eg P.ng) (by simp [PosRec.news])
theorem pm5 {P : PosRec} {h : Heap} {ap : Addr} (hm : ∀ p ∈ P.news ap, h.get? p.1 = some p.2) : h.IsList P.ak P.kv.toArray := isList_of (n := P.ck) (hm (P.ak, listOf P.kv.toArray P.ck) (by simp [PosRec.news]))
theorem pm6 {P : PosRec} {h : Heap} {ap : Addr} (hm : ∀ p ∈ P.news ap, h.get? p.1 = some p.2) : h.IsList P.as P.sv.toArray := isList_of (n := P.cs) (hm (P.as, listOf P.sv.toArray P.cs) (by simp [PosRec.news]))
/-- e gives the value v and turns nothing -/
structure EvV (w : World) (A : Around) (env : Env) (g : Heap) (m : PySem.Str → Option Value) (e : PySem.Expr) (v : Value) : Prop where
  go : ∀ (s : Shared) (Q E : Value → Shared → Prop), Fr g env.locals s.heap m → Q v s → wpAny (model PR w) A (eval e env) Q E s
structure ArgV (w : World) (A : Around) (env : Env) (g : Heap) (m : PySem.Str → Option Value) (es : List PySem.Expr) (vs : List Value) : Prop where
  go : ∀ (pos : Pos) (s : Shared) (Q : List Value → Shared → Prop) (E : Value → Shared → Prop), Fr g env.locals s.heap m → Q vs s → wpAny (model PR w) A (spliced (backTo pos (starEach es env))) Q E s
section
variable {w : World} {A : Around} {g : Heap} {m : PySem.Str → Option Value} {cn x : PySem.Str} {cs : Scope} {L a : Addr} {ccd v : Value} {cl : List (PySem.Str × Addr)} {p : Pos} {env : Env} {e1 e2 : PySem.Expr} {n i j : Int} {t : Tok}
theorem vvL (hv : m x = some v) (hk : cs.kind = .function) (hx : (envX cn cs L a ccd cl).kindOf x = some .local) (hd : (x == ("__debug__" : PySem.Str)) = false) : EvV w A (envX cn cs L a ccd cl) g m (.Name x p) v := ⟨fun s Q E F h => nameX_L F hv h hk hx hd⟩
theorem vvG {mean : ExcName → Option Value} {mg mb : PySem.Str → Option Value} (X : (hd.heap_1 w.params).In g) (T : Top topView (looseW topView [PySem.Str.ofString "PIECE_VALUES"]) mean mg mb g) (e : nsIn (hd.heap_1 w.params) mainGlobals x = some (some v)) (hk : cs.kind = .function) (hx : (envX cn cs L a ccd cl).kindOf x = some .globalImplicit) (hd : (x == ("__debug__" : PySem.Str)) = false) : EvV w A (envX cn cs L a ccd cl) g m (.Name x p) v := ⟨fun s Q E F h => nameX_K F X (topRead_of T) e h hk hx hd⟩
theorem avN : ArgV w A env g m [] [] := ⟨fun pos s Q E F h => PyProof.Rows.args_nil h⟩
theorem avC {es : List PySem.Expr} {vs : List Value} (h1 : EvV w A env g m (.Name x p) v) (h2 : ArgV w A env g m es vs) : ArgV w A env g m (.Name x p :: es) (v :: vs) := ⟨fun pos s Q E F h => PyProof.Rows.args_cons (h1.go s _ _ F (h2.go _ _ _ _ F h))⟩
theorem callV {s : Shared} {Q E : Value → Shared → Prop} {f : Value} {es : List PySem.Expr} {vs : List Value} {p1 p2 : Pos} {y : PySem.Str} (F : Fr g env.locals s.heap m) (X : (hd.heap_1 w.params).In g) (hf : EvV w A env g m (.Name x p1) f) (hk : keepIn (hd.heap_1 w.params) f = true) (ha : ArgV w A env g m (.Name y p2 :: es) vs) (hp : (backTo p (starEach es env)).any (·.1) = false)
    (h : wpAny (model PR w) A (call f vs) Q E s) : wpAny (model PR w) A (eval (.Call (.Name x p1) (.Name y p2 :: es) [] p) env) Q E s :=
  PyProof.Rows.Call_ (hf.go s _ _ F (callWith_K X hk (ha.go _ s _ _ F ⟨X.keeps F.keep, h⟩) rfl hp))
end
end
local macro_rules | `(tactic| k_inst) => `(tactic| (refine' inst_of_base ?F ?h1 ?h2; (case F => k_asm); (case h1 => assumption); (case h2 => assumption)))
local macro_rules | `(tactic| tb_start) => `(tactic| first | (refine Rem.head ?_; (first | exact allLt_ne (by (simp only [AllLt, and_true]); assumption) | k_all)) | (refine Rem.tail ?_ ?_; (k_ne); tb_start))
local macro_rules | `(tactic| k_room) => `(tactic| ktr_room)
local macro_rules | `(tactic| k_get) => `(tactic| assumption)
local macro_rules | `(tactic| tb_rel) => `(tactic| first | exact List.Mem.head _ | (with_reducible assumption) | (refine List.mem_cons_of_mem _ ?_; tb_rel) | (refine List.mem_append_right _ ?_; tb_rel))
local macro_rules | `(tactic| k_mem) => `(tactic| tb_rel)
local macro_rules | `(tactic| walk_at "mine nth") => `(tactic| first | exact ne_nth (by with_reducible assumption) 0 rfl | exact ne_nth (by with_reducible assumption) 1 rfl | exact ne_nth (by with_reducible assumption) 2 rfl | exact ne_nth (by with_reducible assumption) 3 rfl | exact ne_nth (by with_reducible assumption) 4 rfl | exact ne_nth (by with_reducible assumption) 5 rfl | exact ne_nth (by with_reducible assumption) 6 rfl | exact ne_nth (by with_reducible assumption) 7 rfl)
local macro_rules | `(tactic| walk_at "mine ne") => `(tactic| first | walk_at "mine nth" | (refine Ne.symm ?_; walk_at "mine nth") | (refine neN ?_; (try dsimp only); omega))
local macro_rules | `(tactic| walk_at "mine vv") => `(tactic| first | (refine' vvL ?v rfl ?x ?d; (case x => rfl); (case v => rfl); (case d => decide)) | (refine' vvG ?X ?T ?e rfl rfl (by decide); (case X => k_asm); (case T => k_asm); (case e => k_is)))
local macro_rules | `(tactic| walk_at "mine av") => `(tactic| first | exact avN | (refine' avC ?h ?r; (case h => walk_at "mine vv"); (case r => walk_at "mine av")))
section
/-- the ground and the frame's record under names -/
theorem letAE {prog : Program} {w : World} {A : Around} {env : Env} {body : List Stmt} {Q : Flow → Shared → Prop} {E : Value → Shared → Prop} {s : Shared}
    (h : let A' := A; let e' := env; wpAny (model prog w) A' (execs body e') Q E s) : wpAny (model prog w) A (execs body env) Q E s := h



end
-- part P3
example : True := by w_top off; trivial
section
structure Bd (f r : Nat) (bs : List Int) : Prop where
  f1 : 2 ≤ f
  f2 : f ≤ 8
  r1 : 3 ≤ r
  r2 : r ≤ 8
  len : bs.length = f * r
  ent : ∀ x ∈ bs, x = 0 ∨ (1 ≤ x ∧ x ≤ 6) ∨ (9 ≤ x ∧ x ≤ 14)
  k6 : bs.count 6 = 1
  k14 : bs.count 14 = 1
theorem Bd.at {f r : Nat} {bs : List Int} (h : Bd f r bs) (i : Nat) : bs.getD i 0 = 0 ∨ (1 ≤ bs.getD i 0 ∧ bs.getD i 0 ≤ 6) ∨ (9 ≤ bs.getD i 0 ∧ bs.getD i 0 ≤ 14) := by
  by_cases hi : i < bs.length
  · rw [List.getD_eq_getElem?_getD, List.getElem?_eq_getElem hi, Option.getD_some]
    exact h.ent _ (List.getElem_mem hi)
  · rw [List.getD_eq_getElem?_getD, List.getElem?_eq_none (by lia)]
    exact .inl rfl
theorem fmod8 (e : Int) : e.fmod 8 = e % 8 := Int.fmod_eq_emod_of_nonneg _ (by decide)
theorem fdiv8 (e : Int) : e.fdiv 8 = e / 8 := Int.fdiv_eq_ediv_of_nonneg _ (by decide)
theorem ent_mods {e : Int} (h : e = 0 ∨ (1 ≤ e ∧ e ≤ 6) ∨ (9 ≤ e ∧ e ≤ 14)) : 0 ≤ e.fmod 8 ∧ e.fmod 8 < 7 ∧ 0 ≤ e.fdiv 8 ∧ e.fdiv 8 < 2 := by
  rw [fmod8, fdiv8]
  lia
noncomputable def kindB (bs : List Int) (k : Nat) : List Bool := bs.map fun x => decide (x ≠ 0 ∧ x % 8 = (k : Int))
noncomputable def sideB (bs : List Int) (c : Nat) : List Bool := bs.map fun x => decide (x ≠ 0 ∧ x / 8 = (c : Int))
structure PInv (bs : List Int) (KI SI : List Int) : Prop where
  lk : KI.length = 7
  ls : SI.length = 2
  k : ∀ j < 7, KI.getD j 0 = ((bw (kindB bs j) : Nat) : Int)
  s : ∀ j < 2, SI.getD j 0 = ((bw (sideB bs j) : Nat) : Int)
theorem pinv_nil : PInv [] (List.replicate 7 0) (List.replicate 2 0) := by
  refine ⟨rfl, rfl, fun j hj => ?_, fun j hj => ?_⟩
  · rw [List.getD_eq_getElem?_getD, List.getElem?_replicate, if_pos hj]; rfl
  · rw [List.getD_eq_getElem?_getD, List.getElem?_replicate, if_pos hj]; rfl
theorem take_snoc {bs : List Int} {n : Nat} (h : n < bs.length) : bs.take (n + 1) = bs.take n ++ [bs.getD n 0] := by
  rw [List.take_add_one, List.getD_eq_getElem?_getD, List.getElem?_eq_getElem h]; rfl
theorem getD_set' (l : List Int) (i j : Nat) (v : Int) (h : i < l.length) : (l.set i v).getD j 0 = if i = j then v else l.getD j 0 := by
  rw [List.getD_eq_getElem?_getD, List.getElem?_set, List.getD_eq_getElem?_getD]
  by_cases e : i = j
  · rw [if_pos e, if_pos e, if_pos (by lia)]; rfl
  · rw [if_neg e, if_neg e]
theorem or_pow (l : List Bool) (n : Nat) (h : l.length = n) : Builtin.bitOr ((bw l : Nat) : Int) (1 * 2 ^ n) = ((bw (l ++ [true]) : Nat) : Int) := by
  subst h
  rw [Int.one_mul, show ((2 : Int) ^ l.length) = ((2 ^ l.length : Nat) : Int) by simp, bitOr_nat, bw_or, bw_snoc, if_pos rfl]
theorem bw_false (l : List Bool) : bw (l ++ [false]) = bw l := by rw [bw_snoc]; simp
theorem pinv_skip {bs KI SI : List Int} {n : Nat} (h : n < bs.length) (hP : PInv (bs.take n) KI SI) (he : bs.getD n 0 = 0) : PInv (bs.take (n + 1)) KI SI := by
  refine ⟨hP.lk, hP.ls, fun j hj => ?_, fun j hj => ?_⟩
  · rw [hP.k j hj, take_snoc h, he]
    simp only [kindB, List.map_append, List.map_cons, List.map_nil]
    rw [show decide ((0 : Int) ≠ 0 ∧ (0 : Int) % 8 = (j : Int)) = false from decide_eq_false (fun x => x.1 rfl), bw_false]
  · rw [hP.s j hj, take_snoc h, he]
    simp only [sideB, List.map_append, List.map_cons, List.map_nil]
    rw [show decide ((0 : Int) ≠ 0 ∧ (0 : Int) / 8 = (j : Int)) = false from decide_eq_false (fun x => x.1 rfl), bw_false]
theorem set_step (l : List Int) (p : Nat → Prop) [DecidablePred p] (B : Nat → List Bool) (n m i : Nat) (hm : l.length = m) (hi : i < m) (hB : ∀ j < m, l.getD j 0 = ((bw (B j) : Nat) : Int)) (hl : ∀ j, (B j).length = n) (hp : ∀ j, p j ↔ i = j) :
    ∀ j < m, (l.set i (Builtin.bitOr (l.getD i 0) (1 * 2 ^ n))).getD j 0 = ((bw (B j ++ [decide (p j)]) : Nat) : Int) := by
  intro j hj
  rw [getD_set' _ _ _ _ (by lia)]
  by_cases e : i = j
  · subst e
    rw [if_pos rfl, hB i hi, or_pow _ _ (hl i), decide_eq_true ((hp i).mpr rfl)]
  · rw [if_neg e, decide_eq_false (fun h => e ((hp j).mp h)), bw_false, hB j hj]
theorem pinv_step {bs KI SI : List Int} {n : Nat} {k : Int} (h : n < bs.length) (hk : k = (n : Int)) (hP : PInv (bs.take n) KI SI) (he : bs.getD k.toNat 0 ≠ 0) (hb : ∀ i, bs.getD i 0 = 0 ∨ (1 ≤ bs.getD i 0 ∧ bs.getD i 0 ≤ 6) ∨ (9 ≤ bs.getD i 0 ∧ bs.getD i 0 ≤ 14)) :
    PInv (bs.take (n + 1)) (KI.set ((bs.getD k.toNat 0).fmod 8).toNat (Builtin.bitOr (KI.getD ((bs.getD k.toNat 0).fmod 8).toNat 0) (1 * 2 ^ k.toNat)))
      (SI.set ((bs.getD k.toNat 0).fdiv 8).toNat (Builtin.bitOr (SI.getD ((bs.getD k.toNat 0).fdiv 8).toNat 0) (1 * 2 ^ k.toNat))) := by
  subst hk
  rw [Int.toNat_natCast] at he ⊢
  have hb := hb n
  generalize hx : bs.getD n 0 = e at hb he ⊢
  have ⟨a1, a2, a3, a4⟩ := ent_mods hb
  have ln : (bs.take n).length = n := by rw [List.length_take]; lia
  refine ⟨by rw [List.length_set]; exact hP.lk, by rw [List.length_set]; exact hP.ls, ?_, ?_⟩
  · rw [take_snoc h, hx]
    simp only [kindB, List.map_append, List.map_cons, List.map_nil]
    refine set_step KI (fun j => e ≠ 0 ∧ e % 8 = (j : Int)) (kindB (bs.take n)) n 7 _ hP.lk (by lia) hP.k (fun j => by simp only [kindB, List.length_map, ln]) (fun j => ?_)
    rw [fmod8] at a1 a2 ⊢
    lia
  · rw [take_snoc h, hx]
    simp only [sideB, List.map_append, List.map_cons, List.map_nil]
    refine set_step SI (fun j => e ≠ 0 ∧ e / 8 = (j : Int)) (sideB (bs.take n)) n 2 _ hP.ls (by lia) hP.s (fun j => by simp only [sideB, List.length_map, ln]) (fun j => ?_)
    rw [fdiv8] at a3 a4 ⊢
    lia
theorem ints_rep7 {x : Int} {t : Tok} (k : Nat) : IntsAre (List.replicate k [Value.int x t]).flatten (List.replicate k x) := by
  induction k with
  | zero => exact .nil
  | succ k ih => rw [List.replicate_succ, List.replicate_succ]; exact .cons x t ih



end
-- part L1
example : True := by w_top off; trivial
section
section
variable {prog : Program} {w : World} {A : Around} {E : Value → Shared → Prop} {s : Shared} {env : Env} {h₀ : Heap} {x : PySem.Str} {body : List Stmt} {Q : Flow → Shared → Prop}
theorem kst_clean' {o : PySem.Str → Option Value} {u m₀ : PySem.Str → Option Value} : (fun y => if y = x then o y else kstB (fun z => if ([] : List PySem.Str).contains z then u z else m₀ z) [] y) = fun y => if y = x then o y else m₀ y := by
  funext y
  simp [kstB]
/-- a loop over range(0, n) that stores no name -/
theorem range0 {σ : Type} {R : Addr} {b₀ : Int} {t₀ u₀ v₀ : Tok} {n : Nat} {m₀ : PySem.Str → Option Value} (Led : σ → List (Addr × Obj)) (Facts : σ → Prop) (P : Nat → σ → Prop) (c₀ : σ)
    (hh : A.handled = none) (hr : IsRange s.heap R 0 b₀ 1 t₀ u₀ v₀) (hb : b₀ = (n : Int)) (hn : n ≤ 64) (F : Fr h₀ env.locals s.heap m₀) (N : News h₀ env.locals s.heap (Led c₀)) (hf : Facts c₀) (hp : P 0 c₀)
    (turn : ∀ (c : σ) (pre : List Int) (k : Int) t h tk own, k = (pre.length : Int) → pre.length < n → OwnOff own ((Led c₀).map (·.1)) → Facts c → P pre.length c →
      Fr h₀ env.locals h (fun y => if y = x then some (.int k t) else m₀ y) → News h₀ env.locals h (Led c ++ own) →
      wpAny (model prog w) A (execs body env) (InvPostN h₀ env.locals (KstS Led (fun _ => []) Facts x [] m₀ (fun pre => P pre.length) (pre ++ [k])) own ((Led c₀).map (·.1)) { s with heap := h, toks := tk } Q) E { s with heap := h, toks := tk })
    (done : ∀ (c : σ) (u : PySem.Str → Option Value) h tk, Facts c → P n c → Fr h₀ env.locals h (fun y => if y = x then u y else m₀ y) → News h₀ env.locals h (Led c) → Q .next { s with heap := h, toks := tk }) :
    wpAny (model prog w) A (pyIter (.ref R)) (fun it s₂ => LoopAtV prog w A h₀ env x body Q E it s₂) E s := by
  subst hb
  refine kst_range (n := n) Led (fun _ => []) Facts [] (fun pre => P pre.length) c₀ hh hr (small_one (by lia) (by lia) (by lia) (by lia)) (by rw [rangeSize_nat]; lia) F N hf (fun _ h => nomatch h) hp ?_ ?_
  · intro c pre k t u h tk own hk hlt hoff hf hP F2 N2
    rw [kst_clean'] at F2
    exact turn c pre k t h tk own (by lia) hlt hoff hf hP F2 N2
  · intro c u h tk hf hP F2 N2
    rw [kst_clean'] at F2
    rw [rangeKs_length] at hP
    exact done c u h tk hf hP F2 N2
theorem range0_end {σ : Type} {Led : σ → List (Addr × Obj)} {Facts : σ → Prop} {P : Nat → σ → Prop} {m₀ m' : PySem.Str → Option Value} {pre : List Int} {k : Int} {own news' : List (Addr × Obj)} {adr : List Addr} {s₁ : Shared} {h' : Heap} {tk : Nat} {L : Addr} (c : σ)
    (F : Fr h₀ L h' m') (N : News h₀ L h' news') (hn : news' = Led c ++ own) (ha : (Led c).map (·.1) = adr) (hf : Facts c)
    (hr : ∀ z, z ≠ x → (∀ p ∈ ([] : List (PySem.Str × Value)), z ≠ p.1) → ([] : List PySem.Str).contains z = false → m' z = m₀ z) (hp : P (pre.length + 1) c) :
    InvEndN h₀ L (KstS Led (fun _ => []) Facts x [] m₀ (fun pre => P pre.length) (pre ++ [k])) own adr s₁ { s₁ with heap := h', toks := tk } := by
  subst hn
  exact kst_end c F N (fun p hp => List.mem_append_left _ hp) (fun p hp => List.mem_append_right _ hp) ha hf (fun _ h => nomatch h) hr (by rw [List.length_append, List.length_singleton]; exact hp)
end
theorem sub_norm' {prog : Program} {w : World} {A : Around} {E : Value → Shared → Prop} {s : Shared} {value slice : PySem.Expr} {a : Addr} {k : Int} (k' : Int) {u : Tok} {Q : Value → Shared → Prop} (e : k = k') (h : wpAny (model prog w) A (subscriptTail value slice (.ref a) (.int k' u)) Q E s) :
    wpAny (model prog w) A (subscriptTail value slice (.ref a) (.int k u)) Q E s := by subst e; exact h



end
-- part P4
example : True := by w_top off; trivial
section
theorem cnt_set {a : Int} (v : Int) : ∀ (l : List Int) (i : Nat), i < l.length → (l.set i v).count a + (if l.getD i 0 = a then 1 else 0) = l.count a + (if v = a then 1 else 0)
  | [], _, h => absurd h (Nat.not_lt_zero _)
  | x :: r, 0, _ => by
    show (v :: r).count a + (if x = a then 1 else 0) = (x :: r).count a + _
    rw [List.count_cons, List.count_cons]
    simp only [beq_iff_eq]
    lia
  | x :: r, i + 1, h => by
    have ih := cnt_set (a := a) v r i (Nat.lt_of_succ_lt_succ h)
    show (x :: r.set i v).count a + (if r.getD i 0 = a then 1 else 0) = (x :: r).count a + _
    rw [List.count_cons, List.count_cons]
    lia
theorem mem_set {x v : Int} : ∀ {l : List Int} {i : Nat}, x ∈ l.set i v → x = v ∨ x ∈ l
  | [], _, h => by simp at h
  | _ :: _, 0, h => by
    rcases List.mem_cons.mp h with h | h
    · exact .inl h
    · exact .inr (List.mem_cons_of_mem _ h)
  | y :: r, i + 1, h => by
    rcases List.mem_cons.mp h with h | h
    · exact .inr (h ▸ List.mem_cons_self ..)
    · rcases mem_set h with h | h
      · exact .inl h
      · exact .inr (List.mem_cons_of_mem _ h)
theorem Bd.store {f r : Nat} {bs : List Int} (h : Bd f r bs) {i : Nat} (hi : i < bs.length) {v : Int} (h1 : bs.getD i 0 ≠ 6) (h2 : bs.getD i 0 ≠ 14) (hv : v = 0 ∨ (1 ≤ v ∧ v ≤ 5) ∨ (9 ≤ v ∧ v ≤ 13)) : Bd f r (bs.set i v) := by
  refine ⟨h.f1, h.f2, h.r1, h.r2, by rw [List.length_set]; exact h.len, fun x hx => ?_, ?_, ?_⟩
  · rcases mem_set hx with rfl | hx
    · lia
    · exact h.ent x hx
  · have := cnt_set (a := 6) v bs i hi
    rw [if_neg h1, if_neg (by lia), h.k6] at this
    lia
  · have := cnt_set (a := 14) v bs i hi
    rw [if_neg h2, if_neg (by lia), h.k14] at this
    lia
theorem flat_rep (n : Nat) : (List.replicate n [(0 : Int)]).flatten = List.replicate n 0 := by
  induction n with
  | zero => rfl
  | succ n ih => rw [List.replicate_succ, List.replicate_succ, List.flatten_cons, ih]; rfl
theorem bd_start {f r : Nat} {i j : Int} (hf1 : 2 ≤ f) (hf2 : f ≤ 8) (hr1 : 3 ≤ r) (hr2 : r ≤ 8) (hi : 0 ≤ i) (hi2 : i < (f : Int)) (hj : (f : Int) ≤ j) (hj2 : j < (f : Int) * (r : Int)) :
    Bd f r ((((List.replicate ((f : Int) * (r : Int)).toNat [(0 : Int)]).flatten).set i.toNat 6).set j.toNat 14) := by
  obtain ⟨hc, hn1, hn2, hn3, hn4⟩ := fr_bounds hf1 hf2 hr1 hr2
  have hn : ((f : Int) * (r : Int)).toNat = f * r := by lia
  rw [hn, flat_rep]
  have hl : (List.replicate (f * r) (0 : Int)).length = f * r := List.length_replicate ..
  have g0 : ∀ k, (List.replicate (f * r) (0 : Int)).getD k 0 = 0 := fun k => by
    rw [List.getD_eq_getElem?_getD, List.getElem?_replicate]
    split <;> rfl
  have c0 : ∀ a : Int, a ≠ 0 → (List.replicate (f * r) (0 : Int)).count a = 0 := fun a ha => by
    rw [List.count_replicate, if_neg (by simp; lia)]
  have g1 : ((List.replicate (f * r) (0 : Int)).set i.toNat 6).getD j.toNat 0 = 0 := by
    rw [getD_set' _ _ _ _ (by rw [hl]; lia), if_neg (by lia), g0]
  have x6 := cnt_set (a := 6) 6 (List.replicate (f * r) (0 : Int)) i.toNat (by rw [hl]; lia)
  have x14 := cnt_set (a := 14) 6 (List.replicate (f * r) (0 : Int)) i.toNat (by rw [hl]; lia)
  have y6 := cnt_set (a := 6) 14 ((List.replicate (f * r) (0 : Int)).set i.toNat 6) j.toNat (by rw [List.length_set, hl]; lia)
  have y14 := cnt_set (a := 14) 14 ((List.replicate (f * r) (0 : Int)).set i.toNat 6) j.toNat (by rw [List.length_set, hl]; lia)
  rw [g0, c0 6 (by decide), if_neg (by decide), if_pos rfl] at x6
  rw [g0, c0 14 (by decide), if_neg (by decide), if_neg (by decide)] at x14
  rw [g1, if_neg (by decide), if_neg (by decide)] at y6
  rw [g1, if_neg (by decide), if_pos rfl] at y14
  refine ⟨hf1, hf2, hr1, hr2, by rw [List.length_set, List.length_set, hl], fun x hx => ?_, by lia, by lia⟩
  rcases mem_set hx with rfl | hx
  · lia
  · rcases mem_set hx with rfl | hx
    · lia
    · rw [List.mem_replicate] at hx
      lia



end
-- part L2
example : True := by w_top off; trivial
section
section
variable {prog : Program} {w : World} {A : Around} {E : Value → Shared → Prop} {s : Shared} {env : Env} {h₀ : Heap} {x : PySem.Str} {body : List Stmt} {Q : Flow → Shared → Prop}
noncomputable abbrev BLed (Db : Addr) (nb : Nat) (rest : List (Addr × Obj)) (c : List Value × List Int) : List (Addr × Obj) := (Db, listOf c.1.toArray nb) :: rest
noncomputable abbrev BFacts (f r : Nat) (c : List Value × List Int) : Prop := IntsAre c.1 c.2 ∧ Bd f r c.2
theorem kst_clean2 {o : PySem.Str → Option Value} {stored : List PySem.Str} {u m₀ : PySem.Str → Option Value} : (fun y => if y = x then o y else kstB (fun z => if stored.contains z then u z else m₀ z) [] y) = fun y => if y = x then o y else if stored.contains y then u y else m₀ y := rfl
/-- a loop over a made list of ints that keeps a board -/
theorem bd_list {f r : Nat} {D2 Db : Addr} {ws : List Value} {ns : List Int} {k2 nb : Nat} {vb : List Value} {bs : List Int} {m₀ : PySem.Str → Option Value} {rest : List (Addr × Obj)} (stored : List PySem.Str)
    (hh : A.handled = none) (hi : IntsAre ws ns) (hm : (D2, listOf ws.toArray k2) ∈ rest) (hne : ∀ p ∈ rest, p.1 ≠ Db) (F : Fr h₀ env.locals s.heap m₀) (N : News h₀ env.locals s.heap ((Db, listOf vb.toArray nb) :: rest)) (ib : IntsAre vb bs) (hb : Bd f r bs)
    (turn : ∀ (vb : List Value) (bs pre : List Int) (n : Int) t (u : PySem.Str → Option Value) h tk own, n ∈ ns → IntsAre vb bs → Bd f r bs → (∀ p ∈ rest ++ own, p.1 ≠ Db) →
      Fr h₀ env.locals h (fun y => if y = x then some (.int n t) else if stored.contains y then u y else m₀ y) → News h₀ env.locals h ((Db, listOf vb.toArray nb) :: (rest ++ own)) →
      wpAny (model prog w) A (execs body env) (InvPostN h₀ env.locals (KstS (BLed Db nb rest) (fun _ => []) (BFacts f r) x stored m₀ (fun _ _ => True) (pre ++ [n])) own (Db :: rest.map (·.1)) { s with heap := h, toks := tk } Q) E { s with heap := h, toks := tk })
    (done : ∀ (vb : List Value) (bs : List Int) (u : PySem.Str → Option Value) h tk, IntsAre vb bs → Bd f r bs → Fr h₀ env.locals h (fun y => if y = x then u y else if stored.contains y then u y else m₀ y) → News h₀ env.locals h ((Db, listOf vb.toArray nb) :: rest) → Q .next { s with heap := h, toks := tk }) :
    wpAny (model prog w) A (pyIter (.ref D2)) (fun it s₂ => LoopAtV prog w A h₀ env x body Q E it s₂) E s := by
  refine kst_listL (ns := ns) (vs := ws) (nn := k2) (BLed Db nb rest) (fun _ => []) (BFacts f r) stored (fun _ _ => True) (vb, bs) hh (fun c => List.mem_cons_of_mem _ hm) hi F N ⟨ib, hb⟩ (fun _ h => nomatch h) trivial ?_ ?_
  · rintro ⟨vb, bs⟩ pre post n t u h tk own _ hmem hoff ⟨j1, j2⟩ _ F2 N2
    refine turn vb bs pre n t u h tk own hmem j1 j2 (fun p hp => ?_) F2 N2
    rcases List.mem_append.mp hp with hp | hp
    · exact hne p hp
    · exact hoff p hp Db (.head _)
  · rintro ⟨vb, bs⟩ u h tk ⟨j1, j2⟩ _ F2 N2
    exact done vb bs u h tk j1 j2 F2 N2
theorem bd_list_end {f r : Nat} {Db : Addr} {nb : Nat} {rest own : List (Addr × Obj)} {stored : List PySem.Str} {m₀ m' : PySem.Str → Option Value} {pre : List Int} {vb : List Value} {bs : List Int} {s₁ : Shared} {h' : Heap} {tk : Nat} {L : Addr}
    (F : Fr h₀ L h' m') (N : News h₀ L h' ((Db, listOf vb.toArray nb) :: (rest ++ own))) (ib : IntsAre vb bs) (hb : Bd f r bs) (hr : ∀ z, z ≠ x → (∀ p ∈ ([] : List (PySem.Str × Value)), z ≠ p.1) → stored.contains z = false → m' z = m₀ z) :
    InvEndN h₀ L (KstS (BLed Db nb rest) (fun _ => []) (BFacts f r) x stored m₀ (fun _ _ => True) pre) own (Db :: rest.map (·.1)) s₁ { s₁ with heap := h', toks := tk } :=
  kst_end (vb, bs) F N (fun p hp => List.mem_append_left own (as := BLed Db nb rest (vb, bs)) hp) (fun p hp => List.mem_append_right (BLed Db nb rest (vb, bs)) hp) rfl ⟨ib, hb⟩ (fun _ h => nomatch h) hr trivial
/-- a loop over a range that keeps a board and one int -/
noncomputable abbrev BLed1 (Db : Addr) (nb : Nat) (rest : List (Addr × Obj)) (c : List Value × List Int × Int × Tok) : List (Addr × Obj) := (Db, listOf c.1.toArray nb) :: rest
noncomputable abbrev BFacts1 (f r : Nat) (c : List Value × List Int × Int × Tok) : Prop := IntsAre c.1 c.2.1 ∧ Bd f r c.2.1
noncomputable abbrev BPs1 (y : PySem.Str) (c : List Value × List Int × Int × Tok) : List (PySem.Str × Value) := [(y, .int c.2.2.1 c.2.2.2)]
theorem kst_clean1 {o : PySem.Str → Option Value} {nm : PySem.Str} {v : Value} {u m₀ : PySem.Str → Option Value} : (fun y => if y = x then o y else kstB (fun z => if ([] : List PySem.Str).contains z then u z else m₀ z) [(nm, v)] y) = fun y => if y = x then o y else if y = nm then some v else m₀ y := by
  funext y
  simp [kstB]
theorem bd_range {f r : Nat} {R Db : Addr} {nb : Nat} {vb : List Value} {bs : List Int} {m₀ : PySem.Str → Option Value} {rest : List (Addr × Obj)} {a₀ b₀ lf : Int} {tl t₀ u₀ v₀ : Tok} (nm : PySem.Str)
    (hh : A.handled = none) (hr : IsRange s.heap R a₀ b₀ 1 t₀ u₀ v₀) (ha : 0 ≤ a₀) (ha2 : a₀ ≤ 64) (hb2 : 0 ≤ b₀) (hb1 : b₀ ≤ 64) (hne : ∀ p ∈ rest, p.1 ≠ Db) (F : Fr h₀ env.locals s.heap m₀) (N : News h₀ env.locals s.heap ((Db, listOf vb.toArray nb) :: rest)) (ib : IntsAre vb bs) (hb : Bd f r bs) (hl : ∀ p ∈ [(nm, Value.int lf tl)], m₀ p.1 = some p.2)
    (turn : ∀ (vb : List Value) (bs pre : List Int) (lf : Int) (tl : Tok) (k : Int) t h tk own, a₀ ≤ k → k < b₀ → IntsAre vb bs → Bd f r bs → (∀ p ∈ rest ++ own, p.1 ≠ Db) →
      Fr h₀ env.locals h (fun y => if y = x then some (.int k t) else if y = nm then some (.int lf tl) else m₀ y) → News h₀ env.locals h ((Db, listOf vb.toArray nb) :: (rest ++ own)) →
      wpAny (model prog w) A (execs body env) (InvPostN h₀ env.locals (KstS (BLed1 Db nb rest) (BPs1 nm) (BFacts1 f r) x [] m₀ (fun _ _ => True) (pre ++ [k])) own (Db :: rest.map (·.1)) { s with heap := h, toks := tk } Q) E { s with heap := h, toks := tk })
    (done : ∀ (vb : List Value) (bs : List Int) (lf : Int) (tl : Tok) (u : PySem.Str → Option Value) h tk, IntsAre vb bs → Bd f r bs → Fr h₀ env.locals h (fun y => if y = x then u y else if y = nm then some (.int lf tl) else m₀ y) → News h₀ env.locals h ((Db, listOf vb.toArray nb) :: rest) → Q .next { s with heap := h, toks := tk }) :
    wpAny (model prog w) A (pyIter (.ref R)) (fun it s₂ => LoopAtV prog w A h₀ env x body Q E it s₂) E s := by
  refine kst_range (n := (b₀ - a₀).toNat) (BLed1 Db nb rest) (BPs1 nm) (BFacts1 f r) [] (fun _ _ => True) (vb, bs, lf, tl) hh hr (small_one (by lia) (by lia) (by lia) (by lia)) (rangeSize_nat _ _) F N ⟨ib, hb⟩ hl trivial ?_ ?_
  · rintro ⟨vb, bs, lf, tl⟩ pre k t u h tk own hk hlt hoff ⟨j1, j2⟩ _ F2 N2
    rw [kst_clean1] at F2
    refine turn vb bs pre lf tl k t h tk own (by lia) (by lia) j1 j2 (fun p hp => ?_) F2 N2
    rcases List.mem_append.mp hp with hp | hp
    · exact hne p hp
    · exact hoff p hp Db (.head _)
  · rintro ⟨vb, bs, lf, tl⟩ u h tk ⟨j1, j2⟩ _ F2 N2
    rw [kst_clean1] at F2
    exact done vb bs lf tl u h tk j1 j2 F2 N2
theorem bd_range_end {f r : Nat} {Db : Addr} {nb : Nat} {rest own : List (Addr × Obj)} {nm : PySem.Str} {m₀ m' : PySem.Str → Option Value} {pre : List Int} {vb : List Value} {bs : List Int} {lf : Int} {tl : Tok} {s₁ : Shared} {h' : Heap} {tk : Nat} {L : Addr}
    (F : Fr h₀ L h' m') (N : News h₀ L h' ((Db, listOf vb.toArray nb) :: (rest ++ own))) (ib : IntsAre vb bs) (hb : Bd f r bs) (hl : ∀ p ∈ [(nm, Value.int lf tl)], m' p.1 = some p.2) (hr : ∀ z, z ≠ x → (∀ p ∈ [(nm, Value.int lf tl)], z ≠ p.1) → ([] : List PySem.Str).contains z = false → m' z = m₀ z) :
    InvEndN h₀ L (KstS (BLed1 Db nb rest) (BPs1 nm) (BFacts1 f r) x [] m₀ (fun _ _ => True) pre) own (Db :: rest.map (·.1)) s₁ { s₁ with heap := h', toks := tk } :=
  kst_end (vb, bs, lf, tl) F N (fun p hp => List.mem_append_left own (as := BLed1 Db nb rest (vb, bs, lf, tl)) hp) (fun p hp => List.mem_append_right (BLed1 Db nb rest (vb, bs, lf, tl)) hp) rfl ⟨ib, hb⟩ hl hr trivial
end
theorem news2 {h₀ h : Heap} {L a b : Addr} {o1 o2 : Obj} {news : List (Addr × Obj)} (N : News h₀ L h news) (h1 : (a, o1) ∈ news) (h2 : (b, o2) ∈ news) : News h₀ L h [(a, o1), (b, o2)] := by
  intro p hp
  rcases List.mem_cons.mp hp with rfl | hp
  · exact N _ h1
  · rw [List.mem_singleton.mp hp]; exact N _ h2
theorem ne1 {a b : Addr} {o : Obj} (h : b ≠ a) : ∀ p ∈ [(b, o)], p.1 ≠ a := fun p hp => by rw [List.mem_singleton.mp hp]; exact h
noncomputable def NeAll (d : Nat) : List (Addr × Obj) → Prop
  | [] => True
  | q :: r => (@Ne Nat d q.1) ∧ NeAll d r
theorem neAll_of {a : Addr} {o : Obj} : ∀ {news : List (Addr × Obj)}, (∀ p ∈ [(a, o)], ∀ q ∈ news, p.1 ≠ q.1) → NeAll a news
  | [], _ => trivial
  | q :: _, h => ⟨h _ (.head _) q (.head _), neAll_of fun p hp x hx => h p hp x (List.mem_cons_of_mem _ hx)⟩



end
-- part L3
example : True := by w_top off; trivial
section
section
variable {prog : Program} {w : World} {A : Around} {E : Value → Shared → Prop} {s : Shared} {env : Env} {h₀ : Heap} {target : PySem.Expr} {body : List Stmt} {Q : Flow → Shared → Prop}
theorem items_inv {I : Addr} {keep : List (Addr × Obj)} (Inv : (PySem.Str → Option Value) → List (Addr × Obj) → Prop) (It : Value → Prop) (hkeep : ∀ m nw, Inv m nw → SubL keep nw)
    (turn : ∀ v oI m nw h tk, oI.cls = .type "list_iterator" → It v → Inv m nw → Fr h₀ env.locals h m → News h₀ env.locals h ((I, oI) :: nw) →
      wpAny (model prog w) A (assign target env v) (fun _ s₂ => wpAny (model prog w) A (execs body env) (UnrPostW h₀ env.locals { s with heap := h, toks := tk } [(I, oI)] Inv Q) E s₂) E { s with heap := h, toks := tk })
    (done : ∀ m nw h tk, Inv m nw → Fr h₀ env.locals h m → News h₀ env.locals h nw → Q .next { s with heap := h, toks := tk }) :
    ∀ (vs : List Value), (∀ v ∈ vs, It v) → ∀ m nw, Inv m nw → ItemsRest prog w A E h₀ env target body Q s [(I, "list_iterator")] keep (vs.map .val) m nw
  | [], _, m, nw, hi => fun h tk F N => done m nw h tk hi F N
  | v :: r, hv, m, nw, hi => by
    have ih := items_inv Inv It hkeep turn done r fun u hu => hv u (List.mem_cons_of_mem _ hu)
    intro v' h tk hv' F oI hc
    have e : v' = v := hv'
    subst e
    intro N
    refine wpAny_mono (turn v' oI m nw h tk hc (hv _ (List.mem_cons_self ..)) hi F N) (fun _ s₂ h₂ => wpAny_mono h₂ (fun fl s₃ p => ?_) fun _ _ e => e) fun _ _ e => e
    have up : UnrEndW h₀ env.locals { s with heap := h, toks := tk } [(I, oI)] Inv s₃ → UnrEndW h₀ env.locals { s with heap := h, toks := tk } [(I, oI)] (fun m' n' => SubL keep n' ∧ ItemsRest prog w A E h₀ env target body Q s [(I, "list_iterator")] keep (r.map .val) m' n') s₃ := by
      rintro ⟨h', tk', m', nw', e, F', N', o', hi'⟩
      exact ⟨h', tk', m', nw', e, F', N', o', hkeep _ _ hi', ih m' nw' hi'⟩
    cases fl with
    | ret v => exact p
    | brk => exact p
    | next => exact up p
    | cont => exact up p
/-- a loop over a made list of objects that keeps a board, a cell and all names but the stored ones -/
noncomputable abbrev TInv (f r : Nat) (Db Cn : Addr) (nb : Nat) (rest : List (Addr × Obj)) (stored : List PySem.Str) (m₀ : PySem.Str → Option Value) (m : PySem.Str → Option Value) (nw : List (Addr × Obj)) : Prop :=
  ∃ (vb : List Value) (bs : List Int) (on : Obj) (cv : Option Value), nw = (Db, listOf vb.toArray nb) :: (Cn, on) :: rest ∧ on.data = .cell cv ∧ IntsAre vb bs ∧ Bd f r bs ∧ ∀ z, stored.contains z = false → m z = m₀ z
theorem turns_bd {f r : Nat} {ax Db Cn : Addr} {vs : List Value} {k nb : Nat} {rest : List (Addr × Obj)} {m₀ : PySem.Str → Option Value} {vb : List Value} {bs : List Int} {on : Obj} {cv : Option Value} (stored : List PySem.Str) (It : Value → Prop)
    (hh : A.handled = none) (F : Fr h₀ env.locals s.heap m₀) (N : News h₀ env.locals s.heap ((Db, listOf vb.toArray nb) :: (Cn, on) :: rest)) (hm : (ax, listOf vs.toArray k) ∈ rest) (hon : on.data = .cell cv) (ib : IntsAre vb bs) (hb : Bd f r bs) (hIt : ∀ v ∈ vs, It v)
    (hne : (∀ p ∈ rest, p.1 ≠ Db) ∧ (∀ p ∈ rest, p.1 ≠ Cn) ∧ Cn ≠ Db)
    (turn : ∀ v I oI (vb : List Value) (bs : List Int) (on : Obj) (cv : Option Value) (u : PySem.Str → Option Value) h tk, oI.cls = .type "list_iterator" → It v → on.data = .cell cv → IntsAre vb bs → Bd f r bs → (∀ p ∈ (I, oI) :: (Cn, on) :: rest, p.1 ≠ Db) → (∀ p ∈ rest, p.1 ≠ Cn) → (I ≠ Cn) → (∀ p ∈ rest, p.1 ≠ I) →
      Fr h₀ env.locals h (fun z => if stored.contains z then u z else m₀ z) → News h₀ env.locals h ((Db, listOf vb.toArray nb) :: (Cn, on) :: (I, oI) :: rest) →
      wpAny (model prog w) A (assign target env v) (fun _ s₂ => wpAny (model prog w) A (execs body env) (UnrPostW h₀ env.locals { s with heap := h, toks := tk } [(I, oI)] (TInv f r Db Cn nb rest stored m₀) Q) E s₂) E { s with heap := h, toks := tk })
    (done : ∀ (vb : List Value) (bs : List Int) (on : Obj) (u : PySem.Str → Option Value) h tk, IntsAre vb bs → Bd f r bs → Fr h₀ env.locals h (fun z => if stored.contains z then u z else m₀ z) → News h₀ env.locals h ((Db, listOf vb.toArray nb) :: (Cn, on) :: rest) → Q .next { s with heap := h, toks := tk }) :
    wpAny (model prog w) A (pyIter (.ref ax)) (fun it s₂ => TurnsAt prog w A h₀ env target body Q E it s₂) E s := by
  have fr : ∀ {h : Heap} {m : PySem.Str → Option Value}, (∀ z, stored.contains z = false → m z = m₀ z) → Fr h₀ env.locals h m → Fr h₀ env.locals h (fun z => if stored.contains z then m z else m₀ z) := by
    intro h m hz F'
    have e : (fun z => if stored.contains z then m z else m₀ z) = m := by
      funext z
      cases hc : stored.contains z with
      | true => simp
      | false => simp only [Bool.false_eq_true, if_false]; exact (hz z hc).symm
    rw [e]
    exact F'
  refine iter_listTurns hh F N (List.mem_cons_of_mem _ (List.mem_cons_of_mem _ hm)) rfl rfl fun I hI => ?_
  refine items_inv (TInv f r Db Cn nb rest stored m₀) It ?_ ?_ ?_ vs hIt m₀ _ ⟨vb, bs, on, cv, rfl, hon, ib, hb, fun _ _ => rfl⟩
  · rintro m nw ⟨vb, bs, on, cv, rfl, _⟩
    exact ⟨List.mem_cons_of_mem _ (List.mem_cons_of_mem _ hm), trivial⟩
  · rintro v oI m nw h tk hc hit ⟨vb', bs', on', cv', rfl, hon', ib', hb', hz⟩ F' N'
    have lDb : Db ≠ I := Nat.ne_of_lt (hI _ (.head _))
    have lCn : Cn ≠ I := Nat.ne_of_lt (hI _ (.tail _ (.head _)))
    refine turn v I oI vb' bs' on' cv' m h tk hc hit hon' ib' hb' (fun p hp => ?_) hne.2.1 (Ne.symm lCn) (fun p hp => Nat.ne_of_lt (hI _ (.tail _ (.tail _ hp)))) (fr hz F') (fun p hp => ?_)
    · rcases List.mem_cons.mp hp with rfl | hp
      · exact Ne.symm lDb
      · rcases List.mem_cons.mp hp with rfl | hp
        · exact hne.2.2
        · exact hne.1 p hp
    · rcases List.mem_cons.mp hp with rfl | hp
      · exact N' _ (.tail _ (.head _))
      · rcases List.mem_cons.mp hp with rfl | hp
        · exact N' _ (.tail _ (.tail _ (.head _)))
        · rcases List.mem_cons.mp hp with rfl | hp
          · exact N' _ (.head _)
          · exact N' _ (.tail _ (.tail _ (.tail _ hp)))
  · rintro m nw h tk ⟨vb', bs', on', cv', rfl, hon', ib', hb', hz⟩ F' N'
    exact done vb' bs' on' m h tk ib' hb' (fr hz F') N'
theorem turns_bd_end {f r : Nat} {Db Cn I : Addr} {oI on : Obj} {cv : Option Value} {nb : Nat} {rest : List (Addr × Obj)} {m₀ m' : PySem.Str → Option Value} {vb : List Value} {bs : List Int} {stored : List PySem.Str} {L : Addr} {s₁ : Shared} {h' : Heap} {tk : Nat}
    (F : Fr h₀ L h' m') (N : News h₀ L h' ((Db, listOf vb.toArray nb) :: (Cn, on) :: (I, oI) :: rest)) (hon : on.data = .cell cv) (ib : IntsAre vb bs) (hb : Bd f r bs) (h1 : ∀ p ∈ (I, oI) :: (Cn, on) :: rest, p.1 ≠ Db) (h2 : I ≠ Cn) (h3 : ∀ p ∈ rest, p.1 ≠ I) (hz : ∀ z, stored.contains z = false → m' z = m₀ z) :
    UnrEndW h₀ L s₁ [(I, oI)] (TInv f r Db Cn nb rest stored m₀) { s₁ with heap := h', toks := tk } := by
  refine ⟨h', tk, m', _, rfl, F, fun p hp => ?_, fun p hp q hq => ?_, vb, bs, on, cv, rfl, hon, ib, hb, hz⟩
  · rcases List.mem_cons.mp hp with rfl | hp
    · exact N _ (.tail _ (.tail _ (.head _)))
    · rcases List.mem_cons.mp hp with rfl | hp
      · exact N _ (.head _)
      · rcases List.mem_cons.mp hp with rfl | hp
        · exact N _ (.tail _ (.head _))
        · exact N _ (.tail _ (.tail _ (.tail _ hp)))
  · rw [List.mem_singleton.mp hq]
    rcases List.mem_cons.mp hp with rfl | hp
    · exact Ne.symm (h1 _ (.head _))
    · rcases List.mem_cons.mp hp with rfl | hp
      · exact Ne.symm h2
      · exact h3 p hp
theorem turns_bd2 {f r : Nat} {ax Db Cn : Addr} {vs : List Value} {k nb : Nat} {news : List (Addr × Obj)} {m₀ : PySem.Str → Option Value} {vb : List Value} {bs : List Int} {on : Obj} {cv : Option Value} (stored : List PySem.Str) (It : List (Addr × Obj) → Value → Prop)
    (hh : A.handled = none) (F : Fr h₀ env.locals s.heap m₀) (N : News h₀ env.locals s.heap news) (hDb : (Db, listOf vb.toArray nb) ∈ news) (hCn : (Cn, on) ∈ news) (hax : (ax, listOf vs.toArray k) ∈ news) (nab : ax ≠ Db) (nac : ax ≠ Cn) (ncb : Cn ≠ Db) (hon : on.data = .cell cv) (ib : IntsAre vb bs) (hb : Bd f r bs)
    (hIt : ∀ rest : List (Addr × Obj), (∀ q ∈ news, q.1 ≠ Db → q.1 ≠ Cn → q ∈ rest) → ∀ v ∈ vs, It rest v)
    (turn : ∀ rest : List (Addr × Obj), (∀ q ∈ news, q.1 ≠ Db → q.1 ≠ Cn → q ∈ rest) → ∀ v I oI (vb : List Value) (bs : List Int) (on : Obj) (cv : Option Value) (u : PySem.Str → Option Value) h tk, oI.cls = .type "list_iterator" → It rest v → on.data = .cell cv → IntsAre vb bs → Bd f r bs →
      (∀ p ∈ (I, oI) :: rest, p.1 ≠ Db) → (∀ p ∈ (I, oI) :: rest, p.1 ≠ Cn) → (∀ p ∈ rest, p.1 ≠ I) → (@Ne Nat Cn Db) → (@Ne Nat I Db) → (@Ne Nat I Cn) →
      Fr h₀ env.locals h (fun z => if stored.contains z then u z else m₀ z) → News h₀ env.locals h ((Db, listOf vb.toArray nb) :: (Cn, on) :: (I, oI) :: rest) →
      wpAny (model prog w) A (assign target env v) (fun _ s₂ => wpAny (model prog w) A (execs body env) (UnrPostW h₀ env.locals { s with heap := h, toks := tk } [(I, oI)] (TInv f r Db Cn nb rest stored m₀) Q) E s₂) E { s with heap := h, toks := tk })
    (done : ∀ (rest : List (Addr × Obj)) (vb : List Value) (bs : List Int) (on : Obj) (u : PySem.Str → Option Value) h tk, IntsAre vb bs → Bd f r bs → Fr h₀ env.locals h (fun z => if stored.contains z then u z else m₀ z) → News h₀ env.locals h ((Db, listOf vb.toArray nb) :: (Cn, on) :: rest) → Q .next { s with heap := h, toks := tk }) :
    wpAny (model prog w) A (pyIter (.ref ax)) (fun it s₂ => TurnsAt prog w A h₀ env target body Q E it s₂) E s := by
  have hr : ∀ q ∈ news, q.1 ≠ Db → q.1 ≠ Cn → q ∈ news.filter (fun p => decide (p.1 ≠ Db ∧ p.1 ≠ Cn)) := fun q hq h1 h2 => List.mem_filter.mpr ⟨hq, decide_eq_true ⟨h1, h2⟩⟩
  have hd : ∀ p ∈ news.filter (fun p => decide (p.1 ≠ Db ∧ p.1 ≠ Cn)), p.1 ≠ Db ∧ p.1 ≠ Cn := fun p hp => of_decide_eq_true (List.mem_filter.mp hp).2
  refine turns_bd (rest := news.filter (fun p => decide (p.1 ≠ Db ∧ p.1 ≠ Cn))) stored (It _) hh F (fun p hp => ?_) (hr _ hax nab nac) hon ib hb (hIt _ hr) ⟨fun p hp => (hd p hp).1, fun p hp => (hd p hp).2, ncb⟩ ?_ (fun vb bs on u h tk a b c d => done _ vb bs on u h tk a b c d)
  · rcases List.mem_cons.mp hp with rfl | hp
    · exact N _ hDb
    · rcases List.mem_cons.mp hp with rfl | hp
      · exact N _ hCn
      · exact N _ (List.mem_filter.mp hp).1
  · intro v I oI vb bs on cv u h tk hc hit hon ib hb h1 h2 h3 h4 F' N'
    refine turn _ hr v I oI vb bs on cv u h tk hc hit hon ib hb (fun p hp => ?_) (fun p hp => ?_) h4 ncb (h1 _ (.head _)) h3 F' N'
    · rcases List.mem_cons.mp hp with rfl | hp
      · exact h1 _ (.head _)
      · exact h1 _ (.tail _ (.tail _ hp))
    · rcases List.mem_cons.mp hp with rfl | hp
      · exact h3
      · exact h2 p hp
theorem bd_list_at {x : PySem.Str} {f r : Nat} {D5 Db : Addr} {ws : List Value} {ns : List Int} {k5 nb : Nat} {vb : List Value} {bs : List Int} {m₀ : PySem.Str → Option Value} {R : List (Addr × Obj)} (stored : List PySem.Str)
    (hh : A.handled = none) (hi : IntsAre ws ns) (hne5 : D5 ≠ Db) (hneR : ∀ p ∈ R, p.1 ≠ Db) (F : Fr h₀ env.locals s.heap m₀) (N : News h₀ env.locals s.heap ((D5, listOf ws.toArray k5) :: (Db, listOf vb.toArray nb) :: R)) (ib : IntsAre vb bs) (hb : Bd f r bs)
    (turn : ∀ (vb : List Value) (bs pre : List Int) (n : Int) t (u : PySem.Str → Option Value) h tk own, n ∈ ns → IntsAre vb bs → Bd f r bs → (∀ p ∈ ((D5, listOf ws.toArray k5) :: R) ++ own, p.1 ≠ Db) →
      Fr h₀ env.locals h (fun y => if y = x then some (.int n t) else if stored.contains y then u y else m₀ y) → News h₀ env.locals h ((Db, listOf vb.toArray nb) :: (((D5, listOf ws.toArray k5) :: R) ++ own)) →
      wpAny (model prog w) A (execs body env) (InvPostN h₀ env.locals (KstS (BLed Db nb ((D5, listOf ws.toArray k5) :: R)) (fun _ => []) (BFacts f r) x stored m₀ (fun _ _ => True) (pre ++ [n])) own (Db :: ((D5, listOf ws.toArray k5) :: R).map (·.1)) { s with heap := h, toks := tk } Q) E { s with heap := h, toks := tk })
    (done : ∀ (vb : List Value) (bs : List Int) (u : PySem.Str → Option Value) h tk, IntsAre vb bs → Bd f r bs → Fr h₀ env.locals h (fun y => if y = x then u y else if stored.contains y then u y else m₀ y) → News h₀ env.locals h ((Db, listOf vb.toArray nb) :: (D5, listOf ws.toArray k5) :: R) → Q .next { s with heap := h, toks := tk }) :
    wpAny (model prog w) A (pyIter (.ref D5)) (fun it s₂ => LoopAtV prog w A h₀ env x body Q E it s₂) E s := by
  refine bd_list stored hh hi (List.Mem.head _) (fun p hp => ?_) F (fun p hp => ?_) ib hb turn done
  · rcases List.mem_cons.mp hp with rfl | hp
    · exact hne5
    · exact hneR p hp
  · rcases List.mem_cons.mp hp with rfl | hp
    · exact N _ (.tail _ (.head _))
    · rcases List.mem_cons.mp hp with rfl | hp
      · exact N _ (.head _)
      · exact N _ (.tail _ (.tail _ hp))
theorem sub5 {a b : Addr × Obj} {l own : List (Addr × Obj)} : ∀ p ∈ a :: l, p ∈ a :: ((b :: l) ++ own) := fun p hp => by
  rcases List.mem_cons.mp hp with rfl | hp
  · exact .head _
  · exact .tail _ (.tail _ (List.mem_append_left _ hp))
theorem sub6 {a b : Addr × Obj} {l : List (Addr × Obj)} : ∀ p ∈ a :: l, p ∈ a :: b :: l := fun p hp => by
  rcases List.mem_cons.mp hp with rfl | hp
  · exact .head _
  · exact .tail _ (.tail _ hp)
end



end
-- part S0
example : True := by w_top off; trivial
section
/-- a state of the sort: the numbers are those of a₀ in some order, and nothing failed -/
structure SBs (a₀ : Array Keyed) (pd : Array (Nat × Nat × Nat)) (st : SortSt) : Prop where
  perm : (arrOf st).Perm a₀
  kind : kindOf st = oneType'
  failed : failedOf st = none
  pend : pendingOf st = pd
theorem SBs.size {a₀ : Array Keyed} {pd : Array (Nat × Nat × Nat)} {st : SortSt} (h : SBs a₀ pd st) : (arrOf st).size = a₀.size := h.perm.size_eq
theorem SBs.setArr {a₀ : Array Keyed} {pd : Array (Nat × Nat × Nat)} {st : SortSt} (h : SBs a₀ pd st) {xs : Array Keyed} (hp : xs.Perm (arrOf st)) : SBs a₀ pd (setArr st xs) := ⟨hp.trans h.perm, h.kind, h.failed, h.pend⟩
theorem int_at {a₀ xs : Array Keyed} (hp : xs.Perm a₀) (h0 : IntKeys a₀) {i : Nat} (hi : i < xs.size) : ∃ t q, xs[i]? = some (.int (K xs i) t, q) := by
  have hm : xs[i] ∈ a₀.toList := (Array.perm_iff_toList_perm.mp hp).mem_iff.mp (by simp)
  obtain ⟨n, t, hn⟩ := h0 _ hm
  have e : xs[i]? = some xs[i] := getElem?_pos _ i hi
  have e2 : xs[i] = (.int n t, xs[i].2) := Prod.ext hn rfl
  refine ⟨t, xs[i].2, ?_⟩
  unfold K
  rw [e, e2]
  rfl
/-- from lo on, k numbers rise -/
noncomputable def SF (xs : Array Keyed) (lo k : Nat) : Prop := ∀ i j, lo ≤ i → i ≤ j → j < lo + k → K xs i ≤ K xs j
noncomputable def NF (xs : Array Keyed) (lo k : Nat) : Prop := ∀ i j, lo ≤ i → i ≤ j → j < lo + k → K xs j ≤ K xs i
/-- below lo nothing changed -/
noncomputable def Kept (xs ys : Array Keyed) (lo : Nat) : Prop := ∀ i, i < lo → K ys i = K xs i
theorem Kept.trans {xs ys zs : Array Keyed} {lo : Nat} (h : Kept xs ys lo) (h' : Kept ys zs lo) : Kept xs zs lo := fun i hi => (h' i hi).trans (h i hi)
theorem Kept.refl {xs : Array Keyed} {lo : Nat} : Kept xs xs lo := fun _ _ => rfl
theorem kept_mirror {xs : Array Keyed} {i j lo : Nat} (hj : j ≤ xs.size) (h : lo ≤ i) : Kept xs (mirror xs i j ((j - i) / 2)) lo := fun k hk => by
  rw [K_mirror hj, if_neg (by lia)]
section
variable {prog : Program} {w : World} {A : Around} {E : Value → Shared → Prop} {s : Shared} {a₀ : Array Keyed} {pd : Array (Nat × Nat × Nat)}
theorem lt_at {st : SortSt} {i j : Nat} {Q : Option Bool → SortSt → Prop} (hB : SBs a₀ pd st) (h0 : IntKeys a₀) (hi : i < a₀.size) (hj : j < a₀.size)
    (h : Q (some (decide (K (arrOf st) i < K (arrOf st) j))) st) : wpS (model prog w) A E s (ltAt' i j) Q st := by
  obtain ⟨t, p, e1⟩ := int_at hB.perm h0 (i := i) (by rw [hB.size]; exact hi)
  obtain ⟨u, q, e2⟩ := int_at hB.perm h0 (i := j) (by rw [hB.size]; exact hj)
  exact wpS_ltAt hB.kind e1 e2 h
/-- binary insertion from lo on -/
theorem bin_sort {st : SortSt} {lo n ok : Nat} {Q : Bool → SortSt → Prop} (h0 : IntKeys a₀) (hn : lo + n ≤ a₀.size) (hok : ok ≤ n) (hB : SBs a₀ pd st) (hs : SF (arrOf st) lo ok)
    (h : ∀ st', SBs a₀ pd st' → Kept (arrOf st) (arrOf st') lo → SF (arrOf st') lo n → Q true st') : wpS (model prog w) A E s (binarySort' lo n ok) Q st := by
  rw [binarySort'_eq]
  refine wpS_bind (wpS_mono (wpS_forRange (I := fun k c st' => c = (none, ()) ∧ SBs a₀ pd st' ∧ Kept (arrOf st) (arrOf st') lo ∧ SF (arrOf st') lo (min k n))
    (Q := fun c st' => c = (none, ()) ∧ SBs a₀ pd st' ∧ Kept (arrOf st) (arrOf st') lo ∧ SF (arrOf st') lo n) ?step ?fin ?init) ?post)
  case post =>
    rintro c st' ⟨rfl, hB', hk', hs'⟩
    exact wpS_pure (h st' hB' hk' hs')
  case init =>
    refine ⟨rfl, hB, .refl, fun i j hl hij hj => ?_⟩
    by_cases h1 : ok = 0
    · have : i = j := by lia
      subst this; exact Int.le_refl _
    · exact hs i j hl hij (by lia)
  case fin =>
    rintro c st' ⟨hc, hB', hk', hs'⟩
    refine ⟨hc, hB', hk', ?_⟩
    rwa [show min (max (max ok 1) n) n = n by lia] at hs'
  case step =>
    rintro k c st' hak hkn ⟨rfl, hB', hk', hs'⟩
    rw [show min k n = k by lia] at hs'
    refine wpS_bind (wpS_mono (wpS_forRange (I := fun x c st'' => st'' = st' ∧ ∃ l r, c = (none, l, r) ∧ l ≤ r ∧ r ≤ k ∧ r - l ≤ k - x ∧
        (∀ i, i < l → K (arrOf st') (lo + i) ≤ K (arrOf st') (lo + k)) ∧ (∀ i, r ≤ i → i < k → K (arrOf st') (lo + k) < K (arrOf st') (lo + i)))
      (Q := fun c st'' => st'' = st' ∧ ∃ l r, c = (none, l, r) ∧ l ≤ k ∧
        (∀ i, i < l → K (arrOf st') (lo + i) ≤ K (arrOf st') (lo + k)) ∧ (∀ i, l ≤ i → i < k → K (arrOf st') (lo + k) < K (arrOf st') (lo + i))) ?istep ?ifin ?iinit) ?ipost)
    case iinit => exact ⟨rfl, 0, k, rfl, by lia, by lia, by lia, fun i hi => by lia, fun i h1 h2 => by lia⟩
    case ifin =>
      rintro c st'' ⟨rfl, l, r, rfl, hlr, hrk, hm, hlo, hhi⟩
      have : l = r := by lia
      subst this
      exact ⟨rfl, l, l, rfl, hrk, hlo, hhi⟩
    case istep =>
      rintro x c st'' _ hxk ⟨rfl, l, r, rfl, hlr, hrk, hm, hlo, hhi⟩
      dsimp only
      by_cases hge : l ≥ r
      · rw [if_pos hge]
        have : l = r := by lia
        subst this
        exact wpS_pure ⟨rfl, l, l, rfl, hrk, hlo, hhi⟩
      · rw [if_neg hge]
        refine wpS_bind (lt_at hB' h0 (by lia) (by lia) ?_)
        by_cases hless : K (arrOf st'') (lo + k) < K (arrOf st'') (lo + (l + r) / 2)
        · simp only [hless, decide_true, if_true]
          refine wpS_pure ⟨rfl, l, (l + r) / 2, rfl, by lia, by lia, by lia, hlo, fun i h1 h2 => ?_⟩
          exact Int.lt_of_lt_of_le hless (hs' _ _ (by lia) (by lia) (by lia))
        · simp only [hless, decide_false, Bool.false_eq_true, if_false]
          refine wpS_pure ⟨rfl, (l + r) / 2 + 1, r, rfl, by lia, by lia, by lia, fun i h1 => ?_, hhi⟩
          exact Int.le_trans (hs' (lo + i) (lo + (l + r) / 2) (by lia) (by lia) (by lia)) (Int.not_lt.mp hless)
    case ipost =>
      rintro c st'' ⟨rfl, l, r, rfl, hlk, hlo, hhi⟩
      show wpS _ _ _ _ (do moveDown' (lo + k) (lo + l); pure (ForInStep.yield (none, ()))) _ _
      rw [moveDown'_eq]
      have hks : lo + k < (arrOf st'').size := by rw [hB'.size]; lia
      have e (i : Nat) : K (bubble (arrOf st'') (lo + k) (lo + k - (lo + l))) i = if i = lo + l then K (arrOf st'') (lo + k) else if lo + l < i ∧ i ≤ lo + k then K (arrOf st'') (i - 1) else K (arrOf st'') i := by
        rw [K_bubble hks (by lia), show lo + k - (lo + k - (lo + l)) = lo + l by lia]
      refine wpS_bind (wpS_modify (wpS_pure ⟨rfl, hB'.setArr (bubble_perm _ _ _), hk'.trans fun i hi => ?_, ?_⟩))
      · show K (bubble (arrOf st'') (lo + k) (lo + k - (lo + l))) i = _
        rw [e, if_neg (by lia), if_neg (by lia)]
      · rw [show min (k + 1) n = k + 1 by lia]
        intro i j hl hij hj
        show K (bubble (arrOf st'') (lo + k) (lo + k - (lo + l))) i ≤ K (bubble (arrOf st'') (lo + k) (lo + k - (lo + l))) j
        rw [e, e]
        have q1 (i : Nat) (h1 : lo ≤ i) (h2 : i < lo + l) : K (arrOf st'') i ≤ K (arrOf st'') (lo + k) := by
          have := hlo (i - lo) (by lia); rwa [show lo + (i - lo) = i by lia] at this
        have q2 (i : Nat) (h1 : lo + l ≤ i) (h2 : i < lo + k) : K (arrOf st'') (lo + k) ≤ K (arrOf st'') i := by
          have := hhi (i - lo) (by lia) (by lia); rw [show lo + (i - lo) = i by lia] at this; exact Int.le_of_lt this
        repeat' split
        all_goals first
          | (exfalso; lia)
          | exact Int.le_refl _
          | exact q1 _ (by lia) (by lia)
          | exact q2 _ (by lia) (by lia)
          | exact hs' _ _ (by lia) (by lia) (by lia)
end



end
-- part S2
example : True := by w_top off; trivial
section
noncomputable def upLoop (lo a nrem : Nat) : StateT SortSt Sem AscSt :=
  forIn [a:nrem] ((none, a) : AscSt) fun _ __s => do
    let __x ← ltAt' (lo + __s.snd) (lo + __s.snd - 1)
    match __x with
    | some smaller => if smaller = true then pure (ForInStep.done (none, __s.snd)) else pure (ForInStep.yield (none, __s.snd + 1))
    | _ => pure (ForInStep.done (some none, __s.snd))
noncomputable def upTail (lo n nrem : Nat) : StateT SortSt Sem (Option Nat) := do
  reverseSlice' lo (lo + n)
  let __s ← upLoop lo n nrem
  match __s.fst with
  | some r => pure r
  | none => pure (some __s.snd)
noncomputable def downLoop (lo n nrem : Nat) : StateT SortSt Sem DescSt :=
  forIn [n:nrem] ((none, n, 0) : DescSt) fun _ __s => do
    let __x ← ltAt' (lo + __s.snd.fst) (lo + __s.snd.fst - 1)
    match __x with
    | some smaller =>
      if smaller = true then
        if __s.snd.snd > 0 then do
          reverseSlice' (lo + __s.snd.fst - (__s.snd.snd + 1)) (lo + __s.snd.fst)
          pure (ForInStep.yield (none, __s.snd.fst + 1, 0))
        else pure (ForInStep.yield (none, __s.snd.fst + 1, 0))
      else do
        let __x ← ltAt' (lo + __s.snd.fst - 1) (lo + __s.snd.fst)
        match __x with
        | some larger =>
          if larger = true then pure (ForInStep.done (none, __s.snd.fst, __s.snd.snd))
          else pure (ForInStep.yield (none, __s.snd.fst + 1, __s.snd.snd + 1))
        | _ => pure (ForInStep.done (some none, __s.snd.fst, __s.snd.snd))
    | _ => pure (ForInStep.done (some none, __s.snd.fst, __s.snd.snd))
noncomputable def downPart (lo n nrem : Nat) : StateT SortSt Sem (Option Nat) := do
  liftM (rule "list.sort.descending-run")
  let __s ← downLoop lo (n + 1) nrem
  match __s.fst with
  | some r => pure r
  | none =>
    if __s.snd.snd > 0 then do
      reverseSlice' (lo + __s.snd.fst - (__s.snd.snd + 1)) (lo + __s.snd.fst)
      upTail lo __s.snd.fst nrem
    else upTail lo __s.snd.fst nrem
theorem run_eq (lo nrem : Nat) : countRun' lo nrem = (do
    let __s ← upLoop lo 1 nrem
    match __s.fst with
    | some r => pure r
    | none =>
      if (__s.snd == nrem) = true then pure (some __s.snd)
      else if __s.snd > 1 then do
        let __x ← ltAt' lo (lo + __s.snd - 1)
        match __x with
        | some rose => if rose = true then pure (some __s.snd) else do
            reverseSlice' lo (lo + __s.snd)
            downPart lo __s.snd nrem
        | _ => pure none
      else downPart lo __s.snd nrem) := by
  rw [countRun'_eq]
  dsimp only
  unfold downPart upTail downLoop upLoop
  congr 1
  funext __s
  obtain ⟨r, n⟩ := __s
  cases r with
  | some r => rfl
  | none =>
    dsimp only
    have tl : ∀ s3 : AscSt, (match s3.fst with | some r => (pure r : StateT SortSt Sem (Option Nat)) | none => pure (some s3.snd)) = (match s3 with | (some r, _) => pure r | (none, n) => pure (some n)) := by
      rintro ⟨r3, n3⟩; cases r3 <;> rfl
    split
    · rfl
    · split
      · congr 1
        funext x
        cases x with
        | none => rfl
        | some rose =>
          dsimp only
          split
          · rfl
          · congr 1
            funext _r
            congr 1; funext _u; congr 1; congr 1; funext s2; obtain ⟨r2, n2, q2⟩ := s2
            cases r2 with
            | some r2 => rfl
            | none =>
              dsimp only
              split
              · congr 1; funext _v; congr 1; funext _w; congr 1; funext s3; obtain ⟨r3, n3⟩ := s3; cases r3 <;> rfl
              · congr 1; funext _w; congr 1; funext s3; obtain ⟨r3, n3⟩ := s3; cases r3 <;> rfl
      · congr 1; funext _u; congr 1; congr 1; funext s2; obtain ⟨r2, n2, q2⟩ := s2
        cases r2 with
        | some r2 => rfl
        | none =>
          dsimp only
          split
          · congr 1; funext _v; congr 1; funext _w; congr 1; funext s3; obtain ⟨r3, n3⟩ := s3; cases r3 <;> rfl
          · congr 1; funext _w; congr 1; funext s3; obtain ⟨r3, n3⟩ := s3; cases r3 <;> rfl



end
-- part S3
example : True := by w_top off; trivial
section
theorem sf_snoc {xs : Array Keyed} {lo x : Nat} (h : SF xs lo x) (hx : 1 ≤ x) (hl : ¬ K xs (lo + x) < K xs (lo + x - 1)) : SF xs lo (x + 1) := fun i j h1 hij hj => by
  by_cases hjx : j < lo + x
  · exact h i j h1 hij hjx
  · have hj' : j = lo + x := by lia
    subst hj'
    by_cases hi' : i = lo + x
    · subst hi'; exact Int.le_refl _
    · exact Int.le_trans (h i (lo + x - 1) h1 (by lia) (by lia)) (Int.not_lt.mp hl)
theorem nf_snoc {xs : Array Keyed} {lo x : Nat} (h : NF xs lo x) (hx : 1 ≤ x) (hl : K xs (lo + x) ≤ K xs (lo + x - 1)) : NF xs lo (x + 1) := fun i j h1 hij hj => by
  by_cases hjx : j < lo + x
  · exact h i j h1 hij hjx
  · have hj' : j = lo + x := by lia
    subst hj'
    by_cases hi' : i = lo + x
    · subst hi'; exact Int.le_refl _
    · exact Int.le_trans hl (h i (lo + x - 1) h1 (by lia) (by lia))
theorem nf_congr {xs ys : Array Keyed} {lo x : Nat} (h : NF xs lo x) (e : ∀ i, K ys i = K xs i) : NF ys lo x := fun i j h1 h2 h3 => by
  rw [e, e]; exact h i j h1 h2 h3
theorem one_sf {xs : Array Keyed} {lo : Nat} : SF xs lo 1 := fun i j h1 h2 h3 => by
  have : i = j := by lia
  subst this; exact Int.le_refl _
section
variable {prog : Program} {w : World} {A : Around} {E : Value → Shared → Prop} {s : Shared} {a₀ : Array Keyed} {pd : Array (Nat × Nat × Nat)}
theorem up_loop {st : SortSt} {lo a nrem : Nat} {Q : AscSt → SortSt → Prop} (h0 : IntKeys a₀) (hn : lo + nrem ≤ a₀.size) (ha : 1 ≤ a) (han : a ≤ nrem) (hB : SBs a₀ pd st) (hs : SF (arrOf st) lo a)
    (h : ∀ n, a ≤ n → n ≤ nrem → SF (arrOf st) lo n → (n = nrem ∨ K (arrOf st) (lo + n) < K (arrOf st) (lo + n - 1)) → Q (none, n) st) :
    wpS (model prog w) A E s (upLoop lo a nrem) Q st := by
  unfold upLoop
  refine wpS_forRange (I := fun x c st' => st' = st ∧ c = (none, x) ∧ SF (arrOf st) lo x) ?step ?fin ⟨rfl, rfl, hs⟩
  case fin =>
    rintro c st' ⟨rfl, rfl, hs'⟩
    rw [show max a nrem = nrem by lia] at hs' ⊢
    exact h nrem han (Nat.le_refl _) hs' (.inl rfl)
  case step =>
    rintro x c st' hax hxn ⟨rfl, rfl, hs'⟩
    dsimp only
    refine wpS_bind (lt_at hB h0 (by lia) (by lia) ?_)
    by_cases hless : K (arrOf st') (lo + x) < K (arrOf st') (lo + x - 1)
    · simp only [hless, decide_true, if_true]
      exact wpS_pure (h x hax (by lia) hs' (.inr hless))
    · simp only [hless, decide_false, Bool.false_eq_true, if_false]
      exact wpS_pure ⟨rfl, rfl, sf_snoc hs' (by lia) hless⟩
theorem rev_slice {st : SortSt} {i j : Nat} {Q : Unit → SortSt → Prop} (h : Q () (setArr st (mirror (arrOf st) i j ((j - i) / 2)))) : wpS (model prog w) A E s (reverseSlice' i j) Q st := by
  rw [reverseSlice'_eq]; exact wpS_modify h
theorem up_tail {st : SortSt} {lo n nrem : Nat} {Q : Option Nat → SortSt → Prop} (h0 : IntKeys a₀) (hn : lo + nrem ≤ a₀.size) (h1 : 1 ≤ n) (hnn : n ≤ nrem) (hB : SBs a₀ pd st) (hs : NF (arrOf st) lo n)
    (h : ∀ m st', SBs a₀ pd st' → Kept (arrOf st) (arrOf st') lo → 1 ≤ m → m ≤ nrem → SF (arrOf st') lo m → Q (some m) st') : wpS (model prog w) A E s (upTail lo n nrem) Q st := by
  unfold upTail
  have hsz : lo + n ≤ (arrOf st).size := by rw [hB.size]; lia
  refine wpS_bind (rev_slice ?_)
  have hB' : SBs a₀ pd (setArr st (mirror (arrOf st) lo (lo + n) ((lo + n - lo) / 2))) := hB.setArr (mirror_perm _ _ _ _)
  refine wpS_bind (up_loop h0 hn h1 hnn hB' ?_ fun m hm1 hm2 hsm _ => wpS_pure (h m _ hB' (kept_mirror hsz (Nat.le_refl _)) (by lia) hm2 hsm))
  intro i j h1' hij hj
  show K (mirror (arrOf st) lo (lo + n) ((lo + n - lo) / 2)) i ≤ K (mirror (arrOf st) lo (lo + n) ((lo + n - lo) / 2)) j
  rw [K_mirror hsz, K_mirror hsz, if_pos (by lia), if_pos (by lia)]
  exact hs _ _ (by lia) (by lia) (by lia)
theorem down_loop {st : SortSt} {lo n nrem : Nat} {Q : DescSt → SortSt → Prop} (h0 : IntKeys a₀) (hn : lo + nrem ≤ a₀.size) (h1 : 1 ≤ n) (hnn : n ≤ nrem) (hB : SBs a₀ pd st) (hs : NF (arrOf st) lo n)
    (h : ∀ m neq st', SBs a₀ pd st' → Kept (arrOf st) (arrOf st') lo → n ≤ m → m ≤ nrem → NF (arrOf st') lo m → neq + 1 ≤ m → (∀ i, lo + m - (neq + 1) ≤ i → i < lo + m → K (arrOf st') i = K (arrOf st') (lo + m - 1)) → Q (none, m, neq) st') :
    wpS (model prog w) A E s (downLoop lo n nrem) Q st := by
  unfold downLoop
  refine wpS_forRange (I := fun x c st' => ∃ neq, c = (none, x, neq) ∧ SBs a₀ pd st' ∧ Kept (arrOf st) (arrOf st') lo ∧ NF (arrOf st') lo x ∧ neq + 1 ≤ x ∧
      (∀ i, lo + x - (neq + 1) ≤ i → i < lo + x → K (arrOf st') i = K (arrOf st') (lo + x - 1))) ?step ?fin ⟨0, rfl, hB, .refl, hs, by lia, fun i h1 h2 => by congr 1; lia⟩
  case fin =>
    rintro c st' ⟨neq, rfl, hB', hk', hs', hq, he⟩
    rw [show max n nrem = nrem by lia] at hs' hq he ⊢
    exact h nrem neq st' hB' hk' hnn (Nat.le_refl _) hs' hq he
  case step =>
    rintro x c st' hax hxn ⟨neq, rfl, hB', hk', hs', hq, he⟩
    dsimp only
    have hsz : lo + x ≤ (arrOf st').size := by rw [hB'.size]; lia
    refine wpS_bind (lt_at hB' h0 (by lia) (by lia) ?_)
    by_cases hless : K (arrOf st') (lo + x) < K (arrOf st') (lo + x - 1)
    · simp only [hless, decide_true, if_true]
      by_cases hneq : neq > 0
      · rw [if_pos hneq]
        refine wpS_bind (rev_slice (wpS_pure ⟨0, rfl, hB'.setArr (mirror_perm _ _ _ _), hk'.trans (kept_mirror hsz (by lia)), ?_, by lia, fun i h1 h2 => by congr 1; lia⟩))
        exact nf_congr (nf_snoc hs' (by lia) (Int.le_of_lt hless)) (K_mirror_equal hsz he)
      · rw [if_neg hneq]
        exact wpS_pure ⟨0, rfl, hB', hk', nf_snoc hs' (by lia) (Int.le_of_lt hless), by lia, fun i h1 h2 => by congr 1; lia⟩
    · simp only [hless, decide_false, Bool.false_eq_true, if_false]
      refine wpS_bind (lt_at hB' h0 (by lia) (by lia) ?_)
      by_cases hlarger : K (arrOf st') (lo + x - 1) < K (arrOf st') (lo + x)
      · simp only [hlarger, decide_true, if_true]
        exact wpS_pure (h x neq st' hB' hk' hax (by lia) hs' hq he)
      · simp only [hlarger, decide_false, Bool.false_eq_true, if_false]
        have heqx : K (arrOf st') (lo + x) = K (arrOf st') (lo + x - 1) := by lia
        refine wpS_pure ⟨neq + 1, rfl, hB', hk', nf_snoc hs' (by lia) (by lia), by lia, fun i h1 h2 => ?_⟩
        rw [show lo + (x + 1) - 1 = lo + x by lia]
        by_cases hix : i = lo + x
        · subst hix; rfl
        · rw [heqx]; exact he i (by lia) (by lia)
theorem down_part {st : SortSt} {lo n nrem : Nat} {Q : Option Nat → SortSt → Prop} (h0 : IntKeys a₀) (hn : lo + nrem ≤ a₀.size) (hnn : n + 1 ≤ nrem) (hB : SBs a₀ pd st) (hs : NF (arrOf st) lo (n + 1))
    (h : ∀ m st', SBs a₀ pd st' → Kept (arrOf st) (arrOf st') lo → 1 ≤ m → m ≤ nrem → SF (arrOf st') lo m → Q (some m) st') : wpS (model prog w) A E s (downPart lo n nrem) Q st := by
  unfold downPart
  refine wpS_bind (wpS_lift (wpAny_rule ⟨rfl, ?_⟩))
  refine wpS_bind (down_loop h0 hn (by lia) hnn hB hs fun m neq st' hB' hk' hm1 hm2 hs' hq he => ?_)
  dsimp only
  have hsz : lo + m ≤ (arrOf st').size := by rw [hB'.size]; lia
  by_cases hneq : neq > 0
  · rw [if_pos hneq]
    have hk2 : Kept (arrOf st') (mirror (arrOf st') (lo + m - (neq + 1)) (lo + m) ((lo + m - (lo + m - (neq + 1))) / 2)) lo := kept_mirror hsz (by lia)
    refine wpS_bind (rev_slice (up_tail h0 hn (by lia) hm2 (hB'.setArr (mirror_perm _ _ _ _)) ?_ fun m' st'' b k => h m' st'' b (hk'.trans (hk2.trans k))))
    exact nf_congr hs' (K_mirror_equal hsz he)
  · rw [if_neg hneq]
    exact up_tail h0 hn (by lia) hm2 hB' hs' fun m' st'' b k => h m' st'' b (hk'.trans k)
theorem count_run {st : SortSt} {lo nrem : Nat} {Q : Option Nat → SortSt → Prop} (h0 : IntKeys a₀) (hn : lo + nrem ≤ a₀.size) (h1 : 1 ≤ nrem) (hB : SBs a₀ pd st)
    (h : ∀ m st', SBs a₀ pd st' → Kept (arrOf st) (arrOf st') lo → 1 ≤ m → m ≤ nrem → SF (arrOf st') lo m → Q (some m) st') : wpS (model prog w) A E s (countRun' lo nrem) Q st := by
  rw [run_eq]
  refine wpS_bind (up_loop h0 hn (Nat.le_refl 1) h1 hB one_sf fun n hn1 hn2 hsn hor => ?_)
  dsimp only
  by_cases hnn : n = nrem
  · rw [if_pos (by simpa using hnn)]
    exact wpS_pure (h n st hB .refl hn1 hn2 hsn)
  · rw [if_neg (by simpa using hnn)]
    have hlt : K (arrOf st) (lo + n) < K (arrOf st) (lo + n - 1) := hor.resolve_left hnn
    by_cases hgt : n > 1
    · rw [if_pos hgt]
      refine wpS_bind (lt_at hB h0 (by lia) (by lia) ?_)
      by_cases hrose : K (arrOf st) lo < K (arrOf st) (lo + n - 1)
      · simp only [hrose, decide_true, if_true]
        exact wpS_pure (h n st hB .refl hn1 hn2 hsn)
      · simp only [hrose, decide_false, Bool.false_eq_true, if_false]
        have hsz : lo + n ≤ (arrOf st).size := by rw [hB.size]; lia
        have hall : ∀ k, lo ≤ k → k < lo + n → K (arrOf st) k = K (arrOf st) (lo + n - 1) := by
          intro k hk1 hk
          have a1 := hsn lo k (Nat.le_refl _) hk1 hk
          have a2 := hsn k (lo + n - 1) hk1 (by lia) (by lia)
          lia
        have hk2 : Kept (arrOf st) (mirror (arrOf st) lo (lo + n) ((lo + n - lo) / 2)) lo := kept_mirror hsz (Nat.le_refl _)
        refine wpS_bind (rev_slice (down_part h0 hn (by lia) (hB.setArr (mirror_perm _ _ _ _)) ?_ fun m' st'' b k => h m' st'' b (hk2.trans k)))
        refine nf_congr (nf_snoc ?_ hn1 (Int.le_of_lt hlt)) (K_mirror_equal hsz hall)
        intro i j a b c
        rw [hall i a (by lia), hall j (by lia) c]; exact Int.le_refl _
    · rw [if_neg hgt]
      have hn1' : n = 1 := by lia
      subst hn1'
      refine down_part h0 hn (by lia) hB (nf_snoc ?_ (Nat.le_refl 1) (Int.le_of_lt hlt)) h
      intro i j a b c
      have : i = j := by lia
      subst this; exact Int.le_refl _
end



end
-- part S4
example : True := by w_top off; trivial
section
noncomputable def gallop' : Bool → Keyed → Array Keyed → Nat → Nat → Nat → StateT SortSt Sem (Option Nat) := sortPriv% PySem.Builtin.gallop
noncomputable def beyond' (left : Bool) (key : Keyed) (arr : Array Keyed) (base i : Nat) : StateT SortSt Sem (Option Bool) := do
  let x ← elem' arr (base + i)
  if left then lt' x key else return (← lt' key x).map (!·)
noncomputable def halve' (left : Bool) (key : Keyed) (arr : Array Keyed) (base n lo₀ hi₀ : Nat) : StateT SortSt Sem (Option Nat) := do
  let mut lo := lo₀
  let mut hi := hi₀
  for _ in [0:n] do
    if lo ≥ hi then break
    let m := lo + (hi - lo) / 2
    let some more ← beyond' left key arr base m | return none
    if more then lo := m + 1 else hi := m
  return some hi
theorem gallop_eq (left : Bool) (key : Keyed) (arr : Array Keyed) (base n hint : Nat) : gallop' left key arr base n hint = (do
  let some right ← beyond' left key arr base hint | return none
  if right then
    let maxofs := n - hint
    let mut lastofs := 0
    let mut ofs := 1
    for _ in [0:n] do
      if ofs ≥ maxofs then break
      let some more ← beyond' left key arr base (hint + ofs) | return none
      if !more then break
      lastofs := ofs
      ofs := 2 * ofs + 1
    halve' left key arr base n (hint + lastofs + 1) (hint + min ofs maxofs)
  else
    let maxofs := hint + 1
    let mut lastofs := 0
    let mut ofs := 1
    for _ in [0:n] do
      if ofs ≥ maxofs then break
      let some found ← beyond' left key arr base (hint - ofs) | return none
      if found then break
      lastofs := ofs
      ofs := 2 * ofs + 1
    halve' left key arr base n (hint + 1 - min ofs maxofs) (hint - lastofs)) := rfl
noncomputable def GB (left : Bool) (kv : Int) (arr : Array Keyed) (base i : Nat) : Bool := if left then decide (K arr (base + i) < kv) else decide (K arr (base + i) ≤ kv)
section
variable {prog : Program} {w : World} {A : Around} {E : Value → Shared → Prop} {s : Shared}
theorem lt_pair {st : SortSt} {a b : Int} {t u : Tok} {p q : Value} {Q : Option Bool → SortSt → Prop} (hk : kindOf st = oneType') (h : Q (some (decide (a < b))) st) :
    wpS (model prog w) A E s (lt' (.int a t, p) (.int b u, q)) Q st := by
  rw [lt'_eq]
  refine wpS_bind (wpS_get ?_)
  rw [hk, keyLt'_oneType]
  refine wpS_bind (wpS_lift (wpAny_attempt (oneLt_int ⟨rfl, ?_⟩)))
  exact wpS_pure h
theorem beyond_ok {st : SortSt} {left : Bool} {kv : Int} {t : Tok} {q : Value} {arr : Array Keyed} {base i : Nat} {Q : Option Bool → SortSt → Prop} (hk : kindOf st = oneType') (h0 : IntKeys arr) (hi : base + i < arr.size)
    (h : Q (some (GB left kv arr base i)) st) : wpS (model prog w) A E s (beyond' left (.int kv t, q) arr base i) Q st := by
  obtain ⟨u, p, e⟩ := int_at (Array.Perm.refl arr) h0 hi
  unfold beyond'
  rw [elem'_eq, e]
  refine wpS_bind (wpS_pure ?_)
  cases left with
  | true =>
    rw [if_pos rfl]
    exact lt_pair hk h
  | false =>
    rw [if_neg (by decide)]
    refine wpS_bind (lt_pair hk (wpS_pure ?_))
    have : GB false kv arr base i = !decide (kv < K arr (base + i)) := by
      show decide (K arr (base + i) ≤ kv) = _
      by_cases hc : K arr (base + i) ≤ kv
      · rw [decide_eq_true hc, decide_eq_false (by lia)]; rfl
      · rw [decide_eq_false hc, decide_eq_true (by lia)]; rfl
    rw [this] at h
    exact h
theorem halve_ok {st : SortSt} {left : Bool} {kv : Int} {t : Tok} {q : Value} {arr : Array Keyed} {base n lo hi : Nat} {Q : Option Nat → SortSt → Prop} (hk : kindOf st = oneType') (h0 : IntKeys arr) (hsz : base + n ≤ arr.size)
    (mono : ∀ i j, i ≤ j → j < n → GB left kv arr base j = true → GB left kv arr base i = true) (hlh : lo ≤ hi) (hhn : hi ≤ n) (hlo : ∀ i, i < lo → GB left kv arr base i = true) (hhi : ∀ i, hi ≤ i → i < n → GB left kv arr base i = false)
    (h : ∀ k, k ≤ n → (∀ i, i < k → GB left kv arr base i = true) → (∀ i, k ≤ i → i < n → GB left kv arr base i = false) → Q (some k) st) :
    wpS (model prog w) A E s (halve' left (.int kv t, q) arr base n lo hi) Q st := by
  unfold halve'
  dsimp only
  refine wpS_bind (wpS_forRange (I := fun x c st' => st' = st ∧ ∃ l r, c = (none, l, r) ∧ l ≤ r ∧ r ≤ n ∧ r - l ≤ n - x ∧ (∀ i, i < l → GB left kv arr base i = true) ∧ (∀ i, r ≤ i → i < n → GB left kv arr base i = false)) ?step ?fin ⟨rfl, lo, hi, rfl, hlh, hhn, by lia, hlo, hhi⟩)
  case fin =>
    rintro c st' ⟨rfl, l, r, rfl, hlr, hrn, hx, h1, h2⟩
    have : l = r := by lia
    subst this
    exact wpS_pure (h l hrn h1 h2)
  case step =>
    rintro x c st' _ hxn ⟨rfl, l, r, rfl, hlr, hrn, hx, h1, h2⟩
    dsimp only
    by_cases hge : l ≥ r
    · rw [if_pos hge]
      have : l = r := by lia
      subst this
      exact wpS_pure (wpS_pure (h l hrn h1 h2))
    · rw [if_neg hge]
      refine wpS_bind (beyond_ok hk h0 (by lia) ?_)
      dsimp only
      cases hb : GB left kv arr base (l + (r - l) / 2) with
      | true =>
        rw [if_pos rfl]
        exact wpS_pure ⟨rfl, _, _, rfl, by lia, hrn, by lia, fun i hi => mono i _ (by lia) (by lia) hb, h2⟩
      | false =>
        rw [if_neg (by decide)]
        refine wpS_pure ⟨rfl, _, _, rfl, by lia, by lia, by lia, h1, fun i hi1 hi2 => ?_⟩
        cases hc : GB left kv arr base i with
        | false => rfl
        | true => rw [mono _ _ hi1 hi2 hc] at hb; cases hb
theorem gallop_ok {st : SortSt} {left : Bool} {kv : Int} {t : Tok} {q : Value} {arr : Array Keyed} {base n hint : Nat} {Q : Option Nat → SortSt → Prop} (hk : kindOf st = oneType') (h0 : IntKeys arr) (hsz : base + n ≤ arr.size) (hh : hint < n)
    (mono : ∀ i j, i ≤ j → j < n → GB left kv arr base j = true → GB left kv arr base i = true)
    (h : ∀ k, k ≤ n → (∀ i, i < k → GB left kv arr base i = true) → (∀ i, k ≤ i → i < n → GB left kv arr base i = false) → Q (some k) st) :
    wpS (model prog w) A E s (gallop' left (.int kv t, q) arr base n hint) Q st := by
  have mono' : ∀ i j, i ≤ j → j < n → GB left kv arr base i = false → GB left kv arr base j = false := fun i j hij hj hi => by
    cases hc : GB left kv arr base j with
    | false => rfl
    | true => rw [mono i j hij hj hc] at hi; cases hi
  rw [gallop_eq]
  dsimp only
  refine wpS_bind (beyond_ok hk h0 (by lia) ?_)
  dsimp only
  cases hb : GB left kv arr base hint with
  | true =>
    rw [if_pos rfl]
    refine wpS_bind (wpS_forRange (I := fun x c st' => st' = st ∧ ∃ l o, c = (none, l, o) ∧ l < o ∧ x < o ∧ hint + l < n ∧ GB left kv arr base (hint + l) = true)
      (Q := fun c st' => wpS (model prog w) A E s _ Q st') ?step ?fin ⟨rfl, 0, 1, rfl, by lia, by lia, by lia, hb⟩)
    case fin =>
      rintro c st' ⟨rfl, l, o, rfl, hlo, hx, hl, hbl⟩
      rw [Nat.zero_max] at hx
      dsimp only
      rw [Nat.min_eq_right (show n - hint ≤ o by lia)]
      exact halve_ok hk h0 hsz mono (by lia) (by lia) (fun i hi => mono i (hint + l) (by lia) hl hbl) (fun i h1 h2 => by lia) h
    case step =>
      rintro x c st' _ hxn ⟨rfl, l, o, rfl, hlo, hx, hl, hbl⟩
      dsimp only
      by_cases hge : o ≥ n - hint
      · rw [if_pos hge]
        refine wpS_pure ?_
        dsimp only
        rw [Nat.min_eq_right (show n - hint ≤ o from hge)]
        exact halve_ok hk h0 hsz mono (by lia) (by lia) (fun i hi => mono i (hint + l) (by lia) hl hbl) (fun i h1 h2 => by lia) h
      · rw [if_neg hge]
        refine wpS_bind (beyond_ok hk h0 (by lia) ?_)
        dsimp only
        cases hc : GB left kv arr base (hint + o) with
        | false =>
          rw [if_pos (by decide)]
          refine wpS_pure ?_
          dsimp only
          rw [Nat.min_eq_left (show o ≤ n - hint by lia)]
          exact halve_ok hk h0 hsz mono (by lia) (by lia) (fun i hi => mono i (hint + l) (by lia) hl hbl) (fun i h1 h2 => mono' (hint + o) i (by lia) h2 hc) h
        | true =>
          rw [if_neg (by decide)]
          exact wpS_pure ⟨rfl, o, 2 * o + 1, rfl, by lia, by lia, by lia, hc⟩
  | false =>
    rw [if_neg (by decide)]
    refine wpS_bind (wpS_forRange (I := fun x c st' => st' = st ∧ ∃ l o, c = (none, l, o) ∧ l < o ∧ x < o ∧ l ≤ hint ∧ GB left kv arr base (hint - l) = false)
      (Q := fun c st' => wpS (model prog w) A E s _ Q st') ?step ?fin ⟨rfl, 0, 1, rfl, by lia, by lia, by lia, hb⟩)
    case fin =>
      rintro c st' ⟨rfl, l, o, rfl, hlo, hx, hl, hbl⟩
      rw [Nat.zero_max] at hx
      dsimp only
      rw [Nat.min_eq_right (show hint + 1 ≤ o by lia)]
      exact halve_ok hk h0 hsz mono (by lia) (by lia) (fun i hi => by lia) (fun i h1 h2 => mono' (hint - l) i (by lia) h2 hbl) h
    case step =>
      rintro x c st' _ hxn ⟨rfl, l, o, rfl, hlo, hx, hl, hbl⟩
      dsimp only
      by_cases hge : o ≥ hint + 1
      · rw [if_pos hge]
        refine wpS_pure ?_
        dsimp only
        rw [Nat.min_eq_right (show hint + 1 ≤ o from hge)]
        exact halve_ok hk h0 hsz mono (by lia) (by lia) (fun i hi => by lia) (fun i h1 h2 => mono' (hint - l) i (by lia) h2 hbl) h
      · rw [if_neg hge]
        refine wpS_bind (beyond_ok hk h0 (by lia) ?_)
        dsimp only
        cases hc : GB left kv arr base (hint - o) with
        | true =>
          rw [if_pos rfl]
          refine wpS_pure ?_
          dsimp only
          rw [Nat.min_eq_left (show o ≤ hint + 1 by lia)]
          exact halve_ok hk h0 hsz mono (by lia) (by lia) (fun i hi => mono i (hint - o) (by lia) (by lia) hc) (fun i h1 h2 => mono' (hint - l) i (by lia) h2 hbl) h
        | false =>
          rw [if_neg (by decide)]
          exact wpS_pure ⟨rfl, o, 2 * o + 1, rfl, by lia, by lia, by lia, hc⟩
end



end
-- part S5
example : True := by w_top off; trivial
section
noncomputable def kk (p : Keyed) : Int := numOf p.1
noncomputable abbrev Up (l : List Keyed) : Prop := l.Pairwise (fun p q => kk p ≤ kk q)
/-- all of A and B, in order -/
noncomputable def Good (A B l : List Keyed) : Prop := l.Perm (A ++ B) ∧ Up l
/-- merging from the front: out is made, ia and ib are taken -/
structure MInv (A B out : List Keyed) (ia ib : Nat) : Prop where
  perm : (out ++ (A.drop ia ++ B.drop ib)).Perm (A ++ B)
  up : Up out
  toA : ∀ x ∈ out, ∀ y ∈ A.drop ia, kk x ≤ kk y
  toB : ∀ x ∈ out, ∀ y ∈ B.drop ib, kk x ≤ kk y
theorem up_drop {l : List Keyed} (h : Up l) (i : Nat) : Up (l.drop i) := List.Pairwise.sublist (List.drop_sublist i l) h
theorem up_take {l : List Keyed} (h : Up l) (i : Nat) : Up (l.take i) := List.Pairwise.sublist (List.take_sublist i l) h
theorem drop_cons {l : List Keyed} {i : Nat} {p : Keyed} (hp : l[i]? = some p) : l.drop i = p :: l.drop (i + 1) := by
  obtain ⟨hi, rfl⟩ := List.getElem?_eq_some_iff.mp hp
  exact List.drop_eq_getElem_cons hi
theorem head_le {l : List Keyed} (h : Up l) {i : Nat} {p : Keyed} (hp : l[i]? = some p) : ∀ y ∈ l.drop i, kk p ≤ kk y := by
  have hd := up_drop h i
  rw [drop_cons hp] at hd ⊢
  intro y hy
  rcases List.mem_cons.mp hy with rfl | hy
  · exact Int.le_refl _
  · exact (List.pairwise_cons.mp hd).1 y hy
theorem up_snoc {out : List Keyed} {p : Keyed} (h : Up out) (hp : ∀ x ∈ out, kk x ≤ kk p) : Up (out ++ [p]) :=
  List.pairwise_append.mpr ⟨h, List.pairwise_singleton _ _, fun x hx y hy => by rw [List.mem_singleton.mp hy]; exact hp x hx⟩
theorem MInv.pushA {A B out : List Keyed} {ia ib : Nat} {p : Keyed} (h : MInv A B out ia ib) (sA : Up A) (hp : A[ia]? = some p) (hb : ∀ y ∈ B.drop ib, kk p ≤ kk y) : MInv A B (out ++ [p]) (ia + 1) ib := by
  have e := drop_cons hp
  have hd := head_le sA hp
  refine ⟨?_, up_snoc h.up fun x hx => h.toA x hx p (by rw [e]; exact .head _), fun x hx y hy => ?_, fun x hx y hy => ?_⟩
  · have := h.perm
    rw [e] at this
    simpa using this
  · rcases List.mem_append.mp hx with hx | hx
    · exact h.toA x hx y (by rw [e]; exact .tail _ hy)
    · rw [List.mem_singleton.mp hx]; exact hd y (by rw [e]; exact .tail _ hy)
  · rcases List.mem_append.mp hx with hx | hx
    · exact h.toB x hx y hy
    · rw [List.mem_singleton.mp hx]; exact hb y hy
theorem MInv.pushB {A B out : List Keyed} {ia ib : Nat} {p : Keyed} (h : MInv A B out ia ib) (sB : Up B) (hp : B[ib]? = some p) (ha : ∀ y ∈ A.drop ia, kk p ≤ kk y) : MInv A B (out ++ [p]) ia (ib + 1) := by
  have e := drop_cons hp
  have hd := head_le sB hp
  refine ⟨?_, up_snoc h.up fun x hx => h.toB x hx p (by rw [e]; exact .head _), fun x hx y hy => ?_, fun x hx y hy => ?_⟩
  · refine List.Perm.trans ?_ h.perm
    rw [e, List.append_assoc]
    exact List.Perm.append_left _ (by simpa using (List.perm_middle (a := p) (l₁ := A.drop ia) (l₂ := B.drop (ib + 1))).symm)
  · rcases List.mem_append.mp hx with hx | hx
    · exact h.toA x hx y hy
    · rw [List.mem_singleton.mp hx]; exact ha y hy
  · rcases List.mem_append.mp hx with hx | hx
    · exact h.toB x hx y (by rw [e]; exact .tail _ hy)
    · rw [List.mem_singleton.mp hx]; exact hd y (by rw [e]; exact .tail _ hy)
theorem MInv.takeA {A B : List Keyed} (sA : Up A) : ∀ (k : Nat) {out : List Keyed} {ia ib : Nat}, MInv A B out ia ib → ia + k ≤ A.length → (∀ i, i < k → ∀ p, A[ia + i]? = some p → ∀ y ∈ B.drop ib, kk p ≤ kk y) → MInv A B (out ++ (A.drop ia).take k) (ia + k) ib
  | 0, out, ia, ib, h, _, _ => by simpa using h
  | k + 1, out, ia, ib, h, hk, hle => by
    have hp : A[ia]? = some A[ia] := List.getElem?_eq_getElem (by lia)
    have h1 := h.pushA sA hp (hle 0 (by lia) _ hp)
    have h2 := MInv.takeA sA k h1 (by lia) (fun i hi p hp' => hle (i + 1) (by lia) p (by rw [← hp']; congr 1; lia))
    rw [drop_cons hp, List.take_succ_cons, show ia + (k + 1) = ia + 1 + k by lia]
    simpa using h2
theorem MInv.takeB {A B : List Keyed} (sB : Up B) : ∀ (k : Nat) {out : List Keyed} {ia ib : Nat}, MInv A B out ia ib → ib + k ≤ B.length → (∀ i, i < k → ∀ p, B[ib + i]? = some p → ∀ y ∈ A.drop ia, kk p ≤ kk y) → MInv A B (out ++ (B.drop ib).take k) ia (ib + k)
  | 0, out, ia, ib, h, _, _ => by simpa using h
  | k + 1, out, ia, ib, h, hk, hle => by
    have hp : B[ib]? = some B[ib] := List.getElem?_eq_getElem (by lia)
    have h1 := h.pushB sB hp (hle 0 (by lia) _ hp)
    have h2 := MInv.takeB sB k h1 (by lia) (fun i hi p hp' => hle (i + 1) (by lia) p (by rw [← hp']; congr 1; lia))
    rw [drop_cons hp, List.take_succ_cons, show ib + (k + 1) = ib + 1 + k by lia]
    simpa using h2
/-- one side is used up -/
theorem MInv.done {A B out : List Keyed} {ia ib : Nat} (h : MInv A B out ia ib) (sA : Up A) (sB : Up B) (he : A.length ≤ ia ∨ B.length ≤ ib) : Good A B (out ++ A.drop ia ++ B.drop ib) := by
  refine ⟨by rw [List.append_assoc]; exact h.perm, ?_⟩
  rcases he with he | he
  · rw [List.drop_eq_nil_of_le he, List.append_nil]
    exact List.pairwise_append.mpr ⟨h.up, up_drop sB _, h.toB⟩
  · rw [List.drop_eq_nil_of_le he, List.append_nil]
    exact List.pairwise_append.mpr ⟨h.up, up_drop sA _, h.toA⟩
/-- what is left of A goes last -/
theorem MInv.last {A B out : List Keyed} {ia ib : Nat} (h : MInv A B out ia ib) (sA : Up A) (sB : Up B) (he : ∀ x ∈ B, ∀ y ∈ A.drop ia, kk x ≤ kk y) : Good A B (out ++ B.drop ib ++ A.drop ia) := by
  refine ⟨?_, ?_⟩
  · rw [List.append_assoc]
    exact (List.Perm.append_left _ List.perm_append_comm).trans h.perm
  · rw [List.append_assoc]
    refine List.pairwise_append.mpr ⟨h.up, List.pairwise_append.mpr ⟨up_drop sB _, up_drop sA _, fun x hx y hy => he x (List.mem_of_mem_drop hx) y hy⟩, fun x hx y hy => ?_⟩
    rcases List.mem_append.mp hy with hy | hy
    · exact h.toB x hx y hy
    · exact h.toA x hx y hy



end
-- part S6
example : True := by w_top off; trivial
section
noncomputable def setGal' : Nat → StateT SortSt Sem Unit := sortPriv% PySem.Builtin.setMinGallop
theorem setGal'_eq (g : Nat) : setGal' g = modify (fun s => SortSt.mk' (kindOf s) (arrOf s) (pendingOf s) g (failedOf s)) := rfl
noncomputable def mergeLo' : Array Keyed → Array Keyed → StateT SortSt Sem (Array Keyed) := sortPriv% PySem.Builtin.mergeLo
noncomputable abbrev GS := Option (Array Keyed) × Array Keyed × Nat × Nat × Nat × Nat × Nat
noncomputable abbrev PS := Option (Array Keyed) × Array Keyed × Nat × Nat × Nat × Nat
noncomputable abbrev OS := Option (Array Keyed) × Array Keyed × Nat × Nat × Nat
noncomputable def lo3 (a b out : Array Keyed) (ia ib mg ac bc : Nat) : StateT SortSt Sem (ForInStep GS) := do
  let x ← elem' a ia
  if (ia + 1 + 1 == a.size) = true then pure (ForInStep.done (some (out.push x ++ b.extract ib b.size ++ a.extract (ia + 1) a.size), out.push x, ia + 1, ib, mg, ac, bc))
  else if (decide (ac < 7) && decide (bc < 7)) = true then pure (ForInStep.done (none, out.push x, ia + 1, ib, mg, ac, bc))
  else pure (ForInStep.yield (none, out.push x, ia + 1, ib, mg, ac, bc))
noncomputable def lo2 (a b out : Array Keyed) (ia ib mg ac bc₀ : Nat) : StateT SortSt Sem (ForInStep GS) := do
  let x ← elem' b ib
  if (ib + 1 == b.size) = true then pure (ForInStep.done (some (out.push x ++ a.extract ia a.size ++ b.extract (ib + 1) b.size), out.push x, ia, ib + 1, mg, ac, bc₀))
  else do
    let y ← elem' a ia
    let r ← gallop' true y b (ib + 1) (b.size - (ib + 1)) 0
    match r with
    | some k =>
      if k > 0 then
        if (ib + 1 + k == b.size) = true then pure (ForInStep.done (some (out.push x ++ b.extract (ib + 1) (ib + 1 + k) ++ a.extract ia a.size ++ b.extract (ib + 1 + k) b.size), out.push x ++ b.extract (ib + 1) (ib + 1 + k), ia, ib + 1 + k, mg, ac, k))
        else lo3 a b (out.push x ++ b.extract (ib + 1) (ib + 1 + k)) ia (ib + 1 + k) mg ac k
      else lo3 a b (out.push x) ia (ib + 1) mg ac k
    | _ => pure (ForInStep.done (some (out.push x ++ a.extract ia a.size ++ b.extract (ib + 1) b.size), out.push x, ia, ib + 1, mg, ac, bc₀))
noncomputable def lo1 (a b out : Array Keyed) (ia ib mg ac₀ bc₀ : Nat) : StateT SortSt Sem (ForInStep GS) := do
  setGal' mg
  let x ← elem' b ib
  let r ← gallop' false x a ia (a.size - ia) 0
  match r with
  | some k =>
    if k > 0 then
      if (ia + k + 1 == a.size) = true then pure (ForInStep.done (some (out ++ a.extract ia (ia + k) ++ b.extract ib b.size ++ a.extract (ia + k) a.size), out ++ a.extract ia (ia + k), ia + k, ib, mg, k, bc₀))
      else if (ia + k == a.size) = true then pure (ForInStep.done (some (out ++ a.extract ia (ia + k) ++ a.extract (ia + k) a.size ++ b.extract ib b.size), out ++ a.extract ia (ia + k), ia + k, ib, mg, k, bc₀))
      else lo2 a b (out ++ a.extract ia (ia + k)) (ia + k) ib mg k bc₀
    else lo2 a b out ia ib mg k bc₀
  | _ => pure (ForInStep.done (some (out ++ a.extract ia a.size ++ b.extract ib b.size), out, ia, ib, mg, ac₀, bc₀))
noncomputable def lo0 (a b : Array Keyed) (mg : Nat) (out : Array Keyed) (ia ib ac bc : Nat) : StateT SortSt Sem (ForInStep PS) := do
  let x ← elem' b ib
  let y ← elem' a ia
  let r ← lt' x y
  match r with
  | some bWins =>
    if bWins = true then do
      let x ← elem' b ib
      if (ib + 1 == b.size) = true then pure (ForInStep.done (some (out.push x ++ a.extract ia a.size ++ b.extract (ib + 1) b.size), out.push x, ia, ib + 1, 0, bc + 1))
      else if bc + 1 ≥ mg then pure (ForInStep.done (none, out.push x, ia, ib + 1, 0, bc + 1))
      else pure (ForInStep.yield (none, out.push x, ia, ib + 1, 0, bc + 1))
    else do
      let x ← elem' a ia
      if (ia + 1 + 1 == a.size) = true then pure (ForInStep.done (some (out.push x ++ b.extract ib b.size ++ a.extract (ia + 1) a.size), out.push x, ia + 1, ib, ac + 1, 0))
      else if ac + 1 ≥ mg then pure (ForInStep.done (none, out.push x, ia + 1, ib, ac + 1, 0))
      else pure (ForInStep.yield (none, out.push x, ia + 1, ib, ac + 1, 0))
  | _ => pure (ForInStep.done (some (out ++ a.extract ia a.size ++ b.extract ib b.size), out, ia, ib, ac, bc))
noncomputable def loO (a b : Array Keyed) (out : Array Keyed) (ia ib mg : Nat) : StateT SortSt Sem (ForInStep OS) := do
  let s1 ← forIn [0:a.size + b.size] ((none, out, ia, ib, 0, 0) : PS) fun _ c => lo0 a b mg c.2.1 c.2.2.1 c.2.2.2.1 c.2.2.2.2.1 c.2.2.2.2.2
  match s1.1 with
  | some r => pure (ForInStep.done (some r, s1.2.1, s1.2.2.1, s1.2.2.2.1, mg))
  | none => do
    liftM (rule "list.sort.gallop")
    let s2 ← forIn [0:a.size + b.size] ((none, s1.2.1, s1.2.2.1, s1.2.2.2.1, mg + 1, s1.2.2.2.2.1, s1.2.2.2.2.2) : GS) fun _ c =>
      if c.2.2.2.2.1 > 1 then lo1 a b c.2.1 c.2.2.1 c.2.2.2.1 (c.2.2.2.2.1 - 1) c.2.2.2.2.2.1 c.2.2.2.2.2.2 else lo1 a b c.2.1 c.2.2.1 c.2.2.2.1 c.2.2.2.2.1 c.2.2.2.2.2.1 c.2.2.2.2.2.2
    match s2.1 with
    | some r => pure (ForInStep.done (some r, s2.2.1, s2.2.2.1, s2.2.2.2.1, s2.2.2.2.2.1))
    | none => do
      setGal' (s2.2.2.2.2.1 + 1)
      pure (ForInStep.yield (none, s2.2.1, s2.2.2.1, s2.2.2.2.1, s2.2.2.2.2.1 + 1))
theorem bind_two {α β : Type} {x y : StateT SortSt Sem α} {f g : α → StateT SortSt Sem β} (h : x = y) (hf : ∀ a, f a = g a) : x >>= f = y >>= g := by
  subst h
  rw [show f = g from funext hf]
theorem mergeLo_eq0 (a b : Array Keyed) : mergeLo' a b = (do
  rule "list.sort.merge-lo"
  let total := a.size + b.size
  let done (out : Array Keyed) (ia ib : Nat) := out ++ a.extract ia a.size ++ b.extract ib b.size
  let lastOfA (out : Array Keyed) (ia ib : Nat) := out ++ b.extract ib b.size ++ a.extract ia a.size
  let mut out : Array Keyed := #[← elem' b 0]
  let mut ia := 0
  let mut ib := 1
  if ib == b.size then return done out ia ib
  if ia + 1 == a.size then return lastOfA out ia ib
  let mut minGallop := gallopOf (← get)
  for _ in [0:total] do
    let mut acount := 0
    let mut bcount := 0
    for _ in [0:total] do
      let some bWins ← lt' (← elem' b ib) (← elem' a ia) | return done out ia ib
      if bWins then
        out := out.push (← elem' b ib); ib := ib + 1; bcount := bcount + 1; acount := 0
        if ib == b.size then return done out ia ib
        if bcount ≥ minGallop then break
      else
        out := out.push (← elem' a ia); ia := ia + 1; acount := acount + 1; bcount := 0
        if ia + 1 == a.size then return lastOfA out ia ib
        if acount ≥ minGallop then break
    rule "list.sort.gallop"
    minGallop := minGallop + 1
    for _ in [0:total] do
      if minGallop > 1 then minGallop := minGallop - 1
      setGal' minGallop
      let some k ← gallop' false (← elem' b ib) a ia (a.size - ia) 0 | return done out ia ib
      acount := k
      if k > 0 then
        out := out ++ a.extract ia (ia + k); ia := ia + k
        if ia + 1 == a.size then return lastOfA out ia ib
        if ia == a.size then return done out ia ib
      out := out.push (← elem' b ib); ib := ib + 1
      if ib == b.size then return done out ia ib
      let some k ← gallop' true (← elem' a ia) b ib (b.size - ib) 0 | return done out ia ib
      bcount := k
      if k > 0 then
        out := out ++ b.extract ib (ib + k); ib := ib + k
        if ib == b.size then return done out ia ib
      out := out.push (← elem' a ia); ia := ia + 1
      if ia + 1 == a.size then return lastOfA out ia ib
      if acount < 7 && bcount < 7 then break
    minGallop := minGallop + 1
    setGal' minGallop
  unsupported "internal:list.sort.merge-bound") := rfl
theorem mergeLo_eq (a b : Array Keyed) : mergeLo' a b = (do
  liftM (rule "list.sort.merge-lo")
  let x ← elem' b 0
  if (1 == b.size) = true then pure (#[x] ++ a.extract 0 a.size ++ b.extract 1 b.size)
  else if (0 + 1 == a.size) = true then pure (#[x] ++ b.extract 1 b.size ++ a.extract 0 a.size)
  else do
    let st ← get
    let c ← forIn [0:a.size + b.size] ((none, #[x], 0, 1, gallopOf st) : OS) fun _ c => loO a b c.2.1 c.2.2.1 c.2.2.2.1 c.2.2.2.2
    match c.1 with
    | some r => pure r
    | none => liftM (unsupported "internal:list.sort.merge-bound" : Sem (Array Keyed))) := by
  rw [mergeLo_eq0]
  refine congrArg (bind _) (funext fun _ => ?_)
  refine congrArg (bind (elem' b 0)) (funext fun x => ?_)
  refine ite_congr rfl (fun _ => rfl) (fun _ => ?_)
  refine ite_congr rfl (fun _ => rfl) (fun _ => ?_)
  refine congrArg (bind get) (funext fun st => ?_)
  refine bind_two ?_ (fun c => ?_)
  · refine congrArg (forIn [0:a.size + b.size] _) (funext fun _ => funext fun c => ?_)
    unfold loO
    refine bind_two rfl (fun s1 => ?_)
    obtain ⟨r1, o1, i1, j1, a1, b1⟩ := s1
    cases r1 with
    | some r => rfl
    | none =>
      refine bind_two rfl (fun _ => ?_)
      refine bind_two rfl (fun s2 => ?_)
      obtain ⟨r2, o2, i2, j2, m2, a2, b2⟩ := s2
      cases r2 <;> rfl
  · obtain ⟨r, c⟩ := c
    cases r <;> rfl



end
-- part S7
example : True := by w_top off; trivial
section
structure ST (X : Array Keyed) (pd : Array (Nat × Nat × Nat)) (st : SortSt) : Prop where
  kind : kindOf st = oneType'
  arr : arrOf st = X
  pend : pendingOf st = pd
  failed : failedOf st = none
/-- two rising arrays to be merged: b opens below a, and a ends above b -/
structure MH (a b : Array Keyed) : Prop where
  ka : IntKeys a
  kb : IntKeys b
  ua : Up a.toList
  ub : Up b.toList
  na : 1 ≤ a.size
  nb : 1 ≤ b.size
  first : ∀ x, b.toList[0]? = some x → ∀ y ∈ a.toList, kk x ≤ kk y
  last : ∀ x ∈ b.toList, ∀ y ∈ a.toList.drop (a.size - 1), kk x ≤ kk y
theorem toL_done (a b out : Array Keyed) (ia ib : Nat) : (out ++ a.extract ia a.size ++ b.extract ib b.size).toList = out.toList ++ a.toList.drop ia ++ b.toList.drop ib := by
  simp [List.extract, List.take_of_length_le]
theorem toL_ext (a : Array Keyed) (i k : Nat) : (a.extract i (i + k)).toList = (a.toList.drop i).take k := by
  simp [List.extract, show i + k - i = k by lia]
theorem elem_at {xs : Array Keyed} (h0 : IntKeys xs) {i : Nat} (hi : i < xs.size) : ∃ p t, xs[i]? = some p ∧ xs.toList[i]? = some p ∧ p = (.int (kk p) t, p.2) ∧ K xs i = kk p := by
  obtain ⟨t, q, e⟩ := int_at (Array.Perm.refl xs) h0 hi
  refine ⟨_, t, e, by rw [Array.getElem?_toList]; exact e, rfl, rfl⟩
theorem K_list {xs : Array Keyed} {i : Nat} {p : Keyed} (h : xs.toList[i]? = some p) : K xs i = kk p := by
  rw [Array.getElem?_toList] at h
  unfold K
  rw [h]
  rfl
theorem up_K {xs : Array Keyed} (h : Up xs.toList) {i j : Nat} (hij : i ≤ j) (hj : j < xs.size) : K xs i ≤ K xs j := by
  by_cases e : i = j
  · subst e; exact Int.le_refl _
  · have hi' : i < xs.toList.length := by rw [Array.length_toList]; lia
    have hj' : j < xs.toList.length := by rw [Array.length_toList]; lia
    have := List.pairwise_iff_getElem.mp h i j hi' hj' (by lia)
    rw [K_list (List.getElem?_eq_getElem hi'), K_list (List.getElem?_eq_getElem hj')]
    exact this
section
variable {prog : Program} {w : World} {A : Around} {E : Value → Shared → Prop} {s : Shared} {X : Array Keyed} {pd : Array (Nat × Nat × Nat)}
theorem elem_ok {xs : Array Keyed} {i : Nat} {p : Keyed} {st : SortSt} {Q : Keyed → SortSt → Prop} (h : xs[i]? = some p) (hq : Q p st) : wpS (model prog w) A E s (elem' xs i) Q st := by
  rw [elem'_eq, h]
  exact wpS_pure hq
theorem gal_ok {st : SortSt} {g : Nat} {Q : Unit → SortSt → Prop} (h : ST X pd st) (hq : ∀ st', ST X pd st' → Q () st') : wpS (model prog w) A E s (setGal' g) Q st := by
  rw [setGal'_eq]
  exact wpS_modify (hq _ ⟨h.kind, h.arr, h.pend, h.failed⟩)
theorem lt_two {st : SortSt} {x y : Keyed} {t u : Tok} {Q : Option Bool → SortSt → Prop} (hk : kindOf st = oneType') (hx : x = (.int (kk x) t, x.2)) (hy : y = (.int (kk y) u, y.2)) (h : Q (some (decide (kk x < kk y))) st) :
    wpS (model prog w) A E s (lt' x y) Q st := by
  rw [hx, hy]
  exact lt_pair hk h
theorem gallop_two {st : SortSt} {left : Bool} {x : Keyed} {t : Tok} {xs : Array Keyed} {base n hint : Nat} {Q : Option Nat → SortSt → Prop} (hk : kindOf st = oneType') (h0 : IntKeys xs) (hu : Up xs.toList) (hx : x = (.int (kk x) t, x.2)) (hsz : base + n ≤ xs.size) (hh : hint < n)
    (h : ∀ k, k ≤ n → (∀ i, i < k → if left then K xs (base + i) < kk x else K xs (base + i) ≤ kk x) → (∀ i, k ≤ i → i < n → if left then kk x ≤ K xs (base + i) else kk x < K xs (base + i)) → Q (some k) st) :
    wpS (model prog w) A E s (gallop' left x xs base n hint) Q st := by
  rw [hx]
  refine gallop_ok hk h0 hsz hh (fun i j hij hj hb => ?_) fun k hkn h1 h2 => h k hkn (fun i hi => ?_) fun i hi hin => ?_
  · have := up_K hu (i := base + i) (j := base + j) (by lia) (by lia)
    unfold GB at hb ⊢
    cases left with
    | true => simp only [if_true, decide_eq_true_eq] at hb ⊢; lia
    | false => simp only [Bool.false_eq_true, if_false, decide_eq_true_eq] at hb ⊢; lia
  · have hb := h1 i hi
    unfold GB at hb
    cases left with
    | true => simp only [if_true, decide_eq_true_eq] at hb ⊢; exact hb
    | false => simp only [Bool.false_eq_true, if_false, decide_eq_true_eq] at hb ⊢; exact hb
  · have hb := h2 i hi hin
    unfold GB at hb
    cases left with
    | true => simp only [if_true, decide_eq_false_iff_not] at hb ⊢; lia
    | false => simp only [Bool.false_eq_true, if_false, decide_eq_false_iff_not] at hb ⊢; lia
end



end
-- part S8
example : True := by w_top off; trivial
section
noncomputable def LI (a b out : Array Keyed) (ia ib : Nat) : Prop := MInv a.toList b.toList out.toList ia ib ∧ ia + 1 < a.size ∧ ib < b.size ∧ out.size = ia + ib
noncomputable def GoodA (a b r : Array Keyed) : Prop := Good a.toList b.toList r.toList
theorem drop_ge {xs : Array Keyed} {base m n j : Nat} {c : Int} (h : ∀ i, m ≤ i → i < n → c ≤ K xs (base + i)) (hj : base + m = j) (hn : base + n = xs.size) : ∀ y ∈ xs.toList.drop j, c ≤ kk y := fun y hy => by
  obtain ⟨i, hi, rfl⟩ := List.mem_iff_getElem.mp hy
  have hi' : j + i < xs.toList.length := by rw [List.length_drop] at hi; lia
  have e := h (m + i) (by lia) (by rw [Array.length_toList] at hi'; lia)
  rw [show base + (m + i) = j + i by lia, K_list (List.getElem?_eq_getElem hi')] at e
  rw [List.getElem_drop]
  exact e
theorem eq_of_at {l : List Keyed} {i : Nat} {p q : Keyed} (h : l[i]? = some p) (h' : l[i]? = some q) : q = p := Option.some.inj (h'.symm.trans h)
noncomputable def GP (a b X : Array Keyed) (pd : Array (Nat × Nat × Nat)) (N : Nat) (r : ForInStep GS) (st : SortSt) : Prop := ST X pd st ∧ match r with
  | .done c => (∃ res, c.1 = some res ∧ GoodA a b res) ∨ (c.1 = none ∧ LI a b c.2.1 c.2.2.1 c.2.2.2.1 ∧ N ≤ c.2.1.size)
  | .yield c => c.1 = none ∧ LI a b c.2.1 c.2.2.1 c.2.2.2.1 ∧ N ≤ c.2.1.size
noncomputable def GP0 (a b X : Array Keyed) (pd : Array (Nat × Nat × Nat)) (N : Nat) (r : ForInStep PS) (st : SortSt) : Prop := ST X pd st ∧ match r with
  | .done c => (∃ res, c.1 = some res ∧ GoodA a b res) ∨ (c.1 = none ∧ LI a b c.2.1 c.2.2.1 c.2.2.2.1 ∧ N ≤ c.2.1.size)
  | .yield c => c.1 = none ∧ LI a b c.2.1 c.2.2.1 c.2.2.2.1 ∧ N ≤ c.2.1.size
theorem good_done {a b out : Array Keyed} {ia ib : Nat} (H : MH a b) (h : MInv a.toList b.toList out.toList ia ib) (he : a.size ≤ ia ∨ b.size ≤ ib) : GoodA a b (out ++ a.extract ia a.size ++ b.extract ib b.size) := by
  unfold GoodA
  rw [toL_done]
  exact h.done H.ua H.ub (by simpa using he)
theorem good_last {a b out : Array Keyed} {ia ib : Nat} (H : MH a b) (h : MInv a.toList b.toList out.toList ia ib) (he : ia = a.size - 1) : GoodA a b (out ++ b.extract ib b.size ++ a.extract ia a.size) := by
  unfold GoodA
  rw [toL_done]
  subst he
  exact h.last H.ua H.ub H.last
section
variable {prog : Program} {w : World} {A : Around} {E : Value → Shared → Prop} {s : Shared} {X : Array Keyed} {pd : Array (Nat × Nat × Nat)} {a b : Array Keyed}
theorem lo3_ok {st : SortSt} {out : Array Keyed} {ia ib mg ac bc N : Nat} (H : MH a b) (hst : ST X pd st) (hI : LI a b out ia ib) (hle : ∀ p, a.toList[ia]? = some p → ∀ y ∈ b.toList.drop ib, kk p ≤ kk y) (hN : N ≤ out.size + 1) :
    wpS (model prog w) A E s (lo3 a b out ia ib mg ac bc) (GP a b X pd N) st := by
  obtain ⟨hM, ha, hb, hs⟩ := hI
  obtain ⟨p, t, e1, e2, e3, e4⟩ := elem_at H.ka (i := ia) (by lia)
  have h1 : MInv a.toList b.toList (out.push p).toList (ia + 1) ib := by rw [Array.toList_push]; exact hM.pushA H.ua e2 (hle p e2)
  have hsz : (out.push p).size = ia + 1 + ib := by rw [Array.size_push]; lia
  unfold lo3
  refine wpS_bind (elem_ok e1 ?_)
  by_cases h : ia + 1 + 1 = a.size
  · rw [if_pos (by simpa using h)]
    exact wpS_pure ⟨hst, .inl ⟨_, rfl, good_last H h1 (by lia)⟩⟩
  · rw [if_neg (by simpa using h)]
    have hLI : LI a b (out.push p) (ia + 1) ib := ⟨h1, by lia, hb, hsz⟩
    split
    · exact wpS_pure ⟨hst, .inr ⟨rfl, hLI, by dsimp only; lia⟩⟩
    · exact wpS_pure ⟨hst, rfl, hLI, by dsimp only; lia⟩
theorem lo2_ok {st : SortSt} {out : Array Keyed} {ia ib mg ac bc N : Nat} (H : MH a b) (hst : ST X pd st) (hI : LI a b out ia ib) (hle : ∀ p, b.toList[ib]? = some p → ∀ y ∈ a.toList.drop ia, kk p ≤ kk y) (hN : N ≤ out.size + 1) :
    wpS (model prog w) A E s (lo2 a b out ia ib mg ac bc) (GP a b X pd N) st := by
  obtain ⟨hM, ha, hb, hs⟩ := hI
  obtain ⟨p, t, e1, e2, e3, e4⟩ := elem_at H.kb (i := ib) hb
  obtain ⟨q, u, f1, f2, f3, f4⟩ := elem_at H.ka (i := ia) (by lia)
  have h1 : MInv a.toList b.toList (out.push p).toList ia (ib + 1) := by rw [Array.toList_push]; exact hM.pushB H.ub e2 (hle p e2)
  have hsz : (out.push p).size = ia + (ib + 1) := by rw [Array.size_push]; lia
  unfold lo2
  refine wpS_bind (elem_ok e1 ?_)
  by_cases h : ib + 1 = b.size
  · rw [if_pos (by simpa using h)]
    exact wpS_pure ⟨hst, .inl ⟨_, rfl, good_done H h1 (.inr (by lia))⟩⟩
  · rw [if_neg (by simpa using h)]
    refine wpS_bind (elem_ok f1 ?_)
    refine wpS_bind (gallop_two hst.kind H.kb H.ub f3 (by lia) (by lia) fun k hk g1 g2 => ?_)
    simp only [if_true] at g1 g2
    have hq : ∀ p', a.toList[ia]? = some p' → ∀ y ∈ b.toList.drop (ib + 1 + k), kk p' ≤ kk y := fun p' hp' => by
      rw [eq_of_at f2 hp']
      exact drop_ge g2 rfl (by lia)
    dsimp only
    by_cases hk0 : k > 0
    · rw [if_pos hk0]
      have h2 : MInv a.toList b.toList (out.push p ++ b.extract (ib + 1) (ib + 1 + k)).toList ia (ib + 1 + k) := by
        rw [Array.toList_append, toL_ext]
        refine h1.takeB H.ub k (by rw [Array.length_toList]; lia) fun i hi p' hp' y hy => ?_
        have := g1 i hi
        rw [K_list hp'] at this
        exact Int.le_trans (Int.le_of_lt this) (head_le H.ua f2 y hy)
      have hsz2 : (out.push p ++ b.extract (ib + 1) (ib + 1 + k)).size = ia + (ib + 1 + k) := by
        rw [Array.size_append, hsz, Array.size_extract]; lia
      by_cases h' : ib + 1 + k = b.size
      · rw [if_pos (by simpa using h')]
        exact wpS_pure ⟨hst, .inl ⟨_, rfl, good_done H h2 (.inr (by lia))⟩⟩
      · rw [if_neg (by simpa using h')]
        exact lo3_ok H hst ⟨h2, ha, by lia, hsz2⟩ hq (by lia)
    · rw [if_neg hk0]
      have : k = 0 := by lia
      subst this
      exact lo3_ok H hst ⟨h1, ha, by lia, hsz⟩ hq (by lia)
theorem lo1_ok {st : SortSt} {out : Array Keyed} {ia ib mg ac bc N : Nat} (H : MH a b) (hst : ST X pd st) (hI : LI a b out ia ib) (hN : N ≤ out.size + 1) :
    wpS (model prog w) A E s (lo1 a b out ia ib mg ac bc) (GP a b X pd N) st := by
  obtain ⟨hM, ha, hb, hs⟩ := hI
  obtain ⟨p, t, e1, e2, e3, e4⟩ := elem_at H.kb (i := ib) hb
  unfold lo1
  refine wpS_bind (gal_ok hst fun st hst => ?_)
  refine wpS_bind (elem_ok e1 ?_)
  refine wpS_bind (gallop_two hst.kind H.ka H.ua e3 (by lia) (by lia) fun k hk g1 g2 => ?_)
  simp only [Bool.false_eq_true, if_false] at g1 g2
  have hq : ∀ p', b.toList[ib]? = some p' → ∀ y ∈ a.toList.drop (ia + k), kk p' ≤ kk y := fun p' hp' => by
    rw [eq_of_at e2 hp']
    exact drop_ge (fun i h1 h2 => Int.le_of_lt (g2 i h1 h2)) rfl (by lia)
  dsimp only
  by_cases hk0 : k > 0
  · rw [if_pos hk0]
    have h2 : MInv a.toList b.toList (out ++ a.extract ia (ia + k)).toList (ia + k) ib := by
      rw [Array.toList_append, toL_ext]
      refine hM.takeA H.ua k (by rw [Array.length_toList]; lia) fun i hi p' hp' y hy => ?_
      have := g1 i hi
      rw [K_list hp'] at this
      exact Int.le_trans this (head_le H.ub e2 y hy)
    have hsz2 : (out ++ a.extract ia (ia + k)).size = ia + k + ib := by
      rw [Array.size_append, Array.size_extract]; lia
    by_cases h' : ia + k + 1 = a.size
    · rw [if_pos (by simpa using h')]
      exact wpS_pure ⟨hst, .inl ⟨_, rfl, good_last H h2 (by lia)⟩⟩
    · rw [if_neg (by simpa using h')]
      by_cases h'' : ia + k = a.size
      · rw [if_pos (by simpa using h'')]
        exact wpS_pure ⟨hst, .inl ⟨_, rfl, good_done H h2 (.inl (by lia))⟩⟩
      · rw [if_neg (by simpa using h'')]
        exact lo2_ok H hst ⟨h2, by lia, hb, hsz2⟩ hq (by lia)
  · rw [if_neg hk0]
    have : k = 0 := by lia
    subst this
    exact lo2_ok H hst ⟨hM, ha, hb, hs⟩ hq (by lia)
theorem lo0_ok {st : SortSt} {out : Array Keyed} {ia ib mg ac bc N : Nat} (H : MH a b) (hst : ST X pd st) (hI : LI a b out ia ib) (hN : N ≤ out.size + 1) :
    wpS (model prog w) A E s (lo0 a b mg out ia ib ac bc) (GP0 a b X pd N) st := by
  obtain ⟨hM, ha, hb, hs⟩ := hI
  obtain ⟨p, t, e1, e2, e3, e4⟩ := elem_at H.kb (i := ib) hb
  obtain ⟨q, u, f1, f2, f3, f4⟩ := elem_at H.ka (i := ia) (by lia)
  unfold lo0
  refine wpS_bind (elem_ok e1 (wpS_bind (elem_ok f1 (wpS_bind (lt_two hst.kind e3 f3 ?_)))))
  dsimp only
  by_cases hlt : kk p < kk q
  · rw [if_pos (by simpa using hlt)]
    refine wpS_bind (elem_ok e1 ?_)
    have h1 : MInv a.toList b.toList (out.push p).toList ia (ib + 1) := by
      rw [Array.toList_push]; exact hM.pushB H.ub e2 fun y hy => Int.le_trans (Int.le_of_lt hlt) (head_le H.ua f2 y hy)
    have hsz : (out.push p).size = ia + (ib + 1) := by rw [Array.size_push]; lia
    by_cases h : ib + 1 = b.size
    · rw [if_pos (by simpa using h)]
      exact wpS_pure ⟨hst, .inl ⟨_, rfl, good_done H h1 (.inr (by lia))⟩⟩
    · rw [if_neg (by simpa using h)]
      have hLI : LI a b (out.push p) ia (ib + 1) := ⟨h1, ha, by lia, hsz⟩
      split
      · exact wpS_pure ⟨hst, .inr ⟨rfl, hLI, by dsimp only; lia⟩⟩
      · exact wpS_pure ⟨hst, rfl, hLI, by dsimp only; lia⟩
  · rw [if_neg (by simpa using hlt)]
    refine wpS_bind (elem_ok f1 ?_)
    have h1 : MInv a.toList b.toList (out.push q).toList (ia + 1) ib := by
      rw [Array.toList_push]; exact hM.pushA H.ua f2 fun y hy => Int.le_trans (Int.not_lt.mp hlt) (head_le H.ub e2 y hy)
    have hsz : (out.push q).size = ia + 1 + ib := by rw [Array.size_push]; lia
    by_cases h : ia + 1 + 1 = a.size
    · rw [if_pos (by simpa using h)]
      exact wpS_pure ⟨hst, .inl ⟨_, rfl, good_last H h1 (by lia)⟩⟩
    · rw [if_neg (by simpa using h)]
      have hLI : LI a b (out.push q) (ia + 1) ib := ⟨h1, by lia, hb, hsz⟩
      split
      · exact wpS_pure ⟨hst, .inr ⟨rfl, hLI, by dsimp only; lia⟩⟩
      · exact wpS_pure ⟨hst, rfl, hLI, by dsimp only; lia⟩
end



end
-- part S9
example : True := by w_top off; trivial
section
theorem MInv.nil (A B : List Keyed) : MInv A B [] 0 0 := ⟨by simp, List.Pairwise.nil, (fun _ h => nomatch h), (fun _ h => nomatch h)⟩
section
variable {prog : Program} {w : World} {A : Around} {E : Value → Shared → Prop} {s : Shared} {X : Array Keyed} {pd : Array (Nat × Nat × Nat)} {a b : Array Keyed}
theorem loO_ok {st : SortSt} {out : Array Keyed} {ia ib mg : Nat} (H : MH a b) (hst : ST X pd st) (hI : LI a b out ia ib) :
    wpS (model prog w) A E s (loO a b out ia ib mg) (fun r st' => ST X pd st' ∧ match r with
      | .done c => ∃ res, c.1 = some res ∧ GoodA a b res
      | .yield c => c.1 = none ∧ LI a b c.2.1 c.2.2.1 c.2.2.2.1 ∧ out.size + 1 ≤ c.2.1.size) st := by
  unfold loO
  refine wpS_bind (wpS_mono (wpS_forRange (I := fun _ c st' => ST X pd st' ∧ c.1 = none ∧ LI a b c.2.1 c.2.2.1 c.2.2.2.1 ∧ out.size ≤ c.2.1.size)
    (Q := fun c st' => ST X pd st' ∧ ((∃ res, c.1 = some res ∧ GoodA a b res) ∨ (c.1 = none ∧ LI a b c.2.1 c.2.2.1 c.2.2.2.1 ∧ out.size ≤ c.2.1.size))) ?step ?fin ⟨hst, rfl, hI, Nat.le_refl _⟩) ?post)
  case fin =>
    rintro c st' ⟨h1, h2, h3, h4⟩
    exact ⟨h1, .inr ⟨h2, h3, h4⟩⟩
  case step =>
    rintro x ⟨r, o, i, j, ac, bc⟩ st' _ _ ⟨h1, h2, h3, h4⟩
    dsimp only at h3 h4
    refine wpS_mono (lo0_ok (N := out.size) H h1 h3 (by show out.size ≤ o.size + 1; lia)) fun r st'' h => ?_
    obtain ⟨g1, g2⟩ := h
    cases r with
    | done c => exact ⟨g1, g2⟩
    | yield c => exact ⟨g1, g2⟩
  case post =>
    rintro ⟨r, o, i, j, ac, bc⟩ st' ⟨h1, h2⟩
    rcases h2 with ⟨res, e, hg⟩ | ⟨e, hL, hsz⟩
    · dsimp only at e; subst e
      exact wpS_pure ⟨h1, res, rfl, hg⟩
    · dsimp only at e hL hsz; subst e
      dsimp only
      refine wpS_bind (wpS_lift (wpAny_rule ⟨rfl, ?_⟩))
      have hpos : 1 ≤ a.size + b.size := by have := H.na; lia
      refine wpS_bind (wpS_mono (wpS_forRange (I := fun x c st' => ST X pd st' ∧ c.1 = none ∧ LI a b c.2.1 c.2.2.1 c.2.2.2.1 ∧ out.size + x ≤ c.2.1.size)
        (Q := fun c st' => ST X pd st' ∧ ((∃ res, c.1 = some res ∧ GoodA a b res) ∨ (c.1 = none ∧ LI a b c.2.1 c.2.2.1 c.2.2.2.1 ∧ out.size + 1 ≤ c.2.1.size))) ?step2 ?fin2 ⟨h1, rfl, hL, hsz⟩) ?post2)
      case fin2 =>
        rintro c st' ⟨h1, h2, h3, h4⟩
        rw [Nat.zero_max] at h4
        exact ⟨h1, .inr ⟨h2, h3, by lia⟩⟩
      case step2 =>
        rintro x ⟨r, o, i, j, m, ac, bc⟩ st' _ _ ⟨h1, h2, h3, h4⟩
        dsimp only at h3 h4
        have main (m' : Nat) : wpS (model prog w) A E s (lo1 a b o i j m' ac bc) (fun r st' => match r with
            | .done c' => ST X pd st' ∧ ((∃ res, c'.1 = some res ∧ GoodA a b res) ∨ (c'.1 = none ∧ LI a b c'.2.1 c'.2.2.1 c'.2.2.2.1 ∧ out.size + 1 ≤ c'.2.1.size))
            | .yield c' => ST X pd st' ∧ c'.1 = none ∧ LI a b c'.2.1 c'.2.2.1 c'.2.2.2.1 ∧ out.size + (x + 1) ≤ c'.2.1.size) st' := by
          refine wpS_mono (lo1_ok (N := out.size + (x + 1)) H h1 h3 (by lia)) fun r st'' h => ?_
          obtain ⟨g1, g2⟩ := h
          cases r with
          | done c =>
            refine ⟨g1, ?_⟩
            rcases g2 with g2 | ⟨g2, g3, g4⟩
            · exact .inl g2
            · exact .inr ⟨g2, g3, by lia⟩
          | yield c => exact ⟨g1, g2⟩
        dsimp only
        split
        · exact wpS_mono (main _) fun r st'' h => by cases r <;> exact h
        · exact wpS_mono (main _) fun r st'' h => by cases r <;> exact h
      case post2 =>
        rintro ⟨r, o, i, j, m, ac, bc⟩ st' ⟨h1, h2⟩
        rcases h2 with ⟨res, e, hg⟩ | ⟨e, hL, hsz⟩
        · dsimp only at e; subst e
          exact wpS_pure ⟨h1, res, rfl, hg⟩
        · dsimp only at e hL hsz; subst e
          dsimp only
          exact wpS_bind (gal_ok h1 fun st'' h'' => wpS_pure ⟨h'', rfl, hL, hsz⟩)
theorem merge_lo {st : SortSt} {Q : Array Keyed → SortSt → Prop} (H : MH a b) (hst : ST X pd st) (h : ∀ r st', ST X pd st' → GoodA a b r → Q r st') : wpS (model prog w) A E s (mergeLo' a b) Q st := by
  rw [mergeLo_eq]
  refine wpS_bind (wpS_lift (wpAny_rule ⟨rfl, ?_⟩))
  obtain ⟨p, t, e1, e2, e3, e4⟩ := elem_at H.kb (i := 0) H.nb
  refine wpS_bind (elem_ok e1 ?_)
  have h1 : MInv a.toList b.toList (#[p] : Array Keyed).toList 0 1 := (MInv.nil a.toList b.toList).pushB H.ub e2 (H.first p e2)
  by_cases hb : 1 = b.size
  · rw [if_pos (by simpa using hb)]
    exact wpS_pure (h _ st hst (good_done H h1 (.inr (by lia))))
  · rw [if_neg (by simpa using hb)]
    have hnb := H.nb
    have hna := H.na
    by_cases ha : 0 + 1 = a.size
    · rw [if_pos (by simpa using ha)]
      exact wpS_pure (h _ st hst (good_last H h1 (by lia)))
    · rw [if_neg (by simpa using ha)]
      have hL0 : LI a b #[p] 0 1 := ⟨h1, by lia, by lia, rfl⟩
      refine wpS_bind (wpS_get ?_)
      refine wpS_bind (wpS_mono (wpS_forRange (I := fun x c st' => ST X pd st' ∧ c.1 = none ∧ LI a b c.2.1 c.2.2.1 c.2.2.2.1 ∧ 1 + x ≤ c.2.1.size)
        (Q := fun c st' => ST X pd st' ∧ ∃ res, c.1 = some res ∧ GoodA a b res) ?step ?fin ⟨hst, rfl, hL0, Nat.le_refl _⟩) ?post)
      case fin =>
        rintro c st' ⟨h1, h2, h3, h4⟩
        rw [Nat.zero_max] at h4
        obtain ⟨_, q1, q2, q3⟩ := h3
        lia
      case step =>
        rintro x ⟨r, o, i, j, m⟩ st' _ _ ⟨h1, h2, h3, h4⟩
        dsimp only at h3 h4
        refine wpS_mono (loO_ok H h1 h3) fun r st'' hr => ?_
        obtain ⟨g1, g2⟩ := hr
        cases r with
        | done c => exact ⟨g1, g2⟩
        | yield c => exact ⟨g1, g2.1, g2.2.1, by have g3 := g2.2.2; dsimp only at g3; lia⟩
      case post =>
        rintro ⟨r, o, i, j, m⟩ st' ⟨h1, res, e, hg⟩
        dsimp only at e; subst e
        exact wpS_pure (h _ _ h1 hg)
end



end
-- part S10
example : True := by w_top off; trivial
section
/-- merging from the back: R is made, na and nb are left -/
structure HInv (A B R : List Keyed) (na nb : Nat) : Prop where
  perm : (A.take na ++ (B.take nb ++ R)).Perm (A ++ B)
  up : Up R
  toA : ∀ x ∈ A.take na, ∀ r ∈ R, kk x ≤ kk r
  toB : ∀ x ∈ B.take nb, ∀ r ∈ R, kk x ≤ kk r
theorem take_snoc' {l : List Keyed} {n : Nat} {p : Keyed} (hp : l[n]? = some p) : l.take (n + 1) = l.take n ++ [p] := by
  rw [List.take_add_one, hp]
  rfl
theorem le_last {l : List Keyed} (h : Up l) {n : Nat} {p : Keyed} (hp : l[n]? = some p) : ∀ x ∈ l.take (n + 1), kk x ≤ kk p := by
  have ht := up_take h (n + 1)
  rw [take_snoc' hp] at ht ⊢
  intro x hx
  rcases List.mem_append.mp hx with hx | hx
  · exact (List.pairwise_append.mp ht).2.2 x hx p (.head _)
  · rw [List.mem_singleton.mp hx]; exact Int.le_refl _
theorem HInv.pushA {A B R : List Keyed} {n nb : Nat} {p : Keyed} (h : HInv A B R (n + 1) nb) (sA : Up A) (hp : A[n]? = some p) (hb : ∀ y ∈ B.take nb, kk y ≤ kk p) : HInv A B (p :: R) n nb := by
  have e := take_snoc' hp
  have hl := le_last sA hp
  refine ⟨?_, List.pairwise_cons.mpr ⟨fun r hr => h.toA p (by rw [e]; simp) r hr, h.up⟩, fun x hx r hr => ?_, fun x hx r hr => ?_⟩
  · refine List.Perm.trans ?_ h.perm
    rw [e, List.append_assoc]
    exact List.Perm.append_left _ (by simpa using List.perm_middle (a := p) (l₁ := B.take nb) (l₂ := R))
  · rcases List.mem_cons.mp hr with rfl | hr
    · exact hl x (by rw [e]; exact List.mem_append_left _ hx)
    · exact h.toA x (by rw [e]; exact List.mem_append_left _ hx) r hr
  · rcases List.mem_cons.mp hr with rfl | hr
    · exact hb x hx
    · exact h.toB x hx r hr
theorem HInv.pushB {A B R : List Keyed} {na n : Nat} {p : Keyed} (h : HInv A B R na (n + 1)) (sB : Up B) (hp : B[n]? = some p) (ha : ∀ y ∈ A.take na, kk y ≤ kk p) : HInv A B (p :: R) na n := by
  have e := take_snoc' hp
  have hl := le_last sB hp
  refine ⟨?_, List.pairwise_cons.mpr ⟨fun r hr => h.toB p (by rw [e]; simp) r hr, h.up⟩, fun x hx r hr => ?_, fun x hx r hr => ?_⟩
  · have := h.perm
    rw [e] at this
    simpa using this
  · rcases List.mem_cons.mp hr with rfl | hr
    · exact ha x hx
    · exact h.toA x hx r hr
  · rcases List.mem_cons.mp hr with rfl | hr
    · exact hl x (by rw [e]; exact List.mem_append_left _ hx)
    · exact h.toB x (by rw [e]; exact List.mem_append_left _ hx) r hr
theorem HInv.takeA {A B : List Keyed} (sA : Up A) (m : Nat) : ∀ (k : Nat) {R : List Keyed} {nb : Nat}, HInv A B R (m + k) nb → m + k ≤ A.length → (∀ i, m ≤ i → i < m + k → ∀ p, A[i]? = some p → ∀ y ∈ B.take nb, kk y ≤ kk p) → HInv A B ((A.drop m).take k ++ R) m nb
  | 0, R, nb, h, _, _ => by simpa using h
  | k + 1, R, nb, h, hk, hle => by
    have hp : A[m + k]? = some A[m + k] := List.getElem?_eq_getElem (by lia)
    have h1 := HInv.pushA (n := m + k) h sA hp (hle (m + k) (by lia) (by lia) _ hp)
    have h2 := HInv.takeA sA m k h1 (by lia) (fun i a b => hle i a (by lia))
    have e : (A.drop m).take (k + 1) = (A.drop m).take k ++ [A[m + k]] := by
      rw [List.take_add_one, List.getElem?_drop, hp]; rfl
    rw [e, List.append_assoc]
    exact h2
theorem HInv.takeB {A B : List Keyed} (sB : Up B) (m : Nat) : ∀ (k : Nat) {R : List Keyed} {na : Nat}, HInv A B R na (m + k) → m + k ≤ B.length → (∀ i, m ≤ i → i < m + k → ∀ p, B[i]? = some p → ∀ y ∈ A.take na, kk y ≤ kk p) → HInv A B ((B.drop m).take k ++ R) na m
  | 0, R, na, h, _, _ => by simpa using h
  | k + 1, R, na, h, hk, hle => by
    have hp : B[m + k]? = some B[m + k] := List.getElem?_eq_getElem (by lia)
    have h1 := HInv.pushB (n := m + k) h sB hp (hle (m + k) (by lia) (by lia) _ hp)
    have h2 := HInv.takeB sB m k h1 (by lia) (fun i a b => hle i a (by lia))
    have e : (B.drop m).take (k + 1) = (B.drop m).take k ++ [B[m + k]] := by
      rw [List.take_add_one, List.getElem?_drop, hp]; rfl
    rw [e, List.append_assoc]
    exact h2
theorem HInv.done {A B R : List Keyed} {na nb : Nat} (h : HInv A B R na nb) (sA : Up A) (sB : Up B) (he : na = 0 ∨ nb = 0) : Good A B (A.take na ++ B.take nb ++ R) := by
  refine ⟨by rw [List.append_assoc]; exact h.perm, ?_⟩
  rcases he with rfl | rfl
  · simp only [List.take_zero, List.nil_append]
    exact List.pairwise_append.mpr ⟨up_take sB _, h.up, h.toB⟩
  · simp only [List.take_zero, List.append_nil]
    exact List.pairwise_append.mpr ⟨up_take sA _, h.up, h.toA⟩
theorem HInv.first {A B R : List Keyed} {na nb : Nat} (h : HInv A B R na nb) (sA : Up A) (sB : Up B) (he : ∀ x ∈ B.take nb, ∀ y ∈ A, kk x ≤ kk y) : Good A B (B.take nb ++ A.take na ++ R) := by
  refine ⟨?_, ?_⟩
  · refine List.Perm.trans ?_ h.perm
    rw [← List.append_assoc (A.take na)]
    exact List.Perm.append_right _ List.perm_append_comm
  · rw [List.append_assoc]
    refine List.pairwise_append.mpr ⟨up_take sB _, List.pairwise_append.mpr ⟨up_take sA _, h.up, h.toA⟩, fun x hx y hy => ?_⟩
    rcases List.mem_append.mp hy with hy | hy
    · exact he x hx y (List.mem_of_mem_take hy)
    · exact h.toB x hx y hy
noncomputable abbrev GH := Option (Array Keyed) × Nat × Nat × Array Keyed × Nat × Nat × Nat
noncomputable abbrev PH := Option (Array Keyed) × Nat × Nat × Array Keyed × Nat × Nat
noncomputable abbrev OH := Option (Array Keyed) × Nat × Nat × Array Keyed × Nat
noncomputable def mergeHi' : Array Keyed → Array Keyed → StateT SortSt Sem (Array Keyed) := sortPriv% PySem.Builtin.mergeHi
noncomputable def hi3 (a b : Array Keyed) (na nb : Nat) (out : Array Keyed) (mg ac bc : Nat) : StateT SortSt Sem (ForInStep GH) := do
  let x ← elem' a (na - 1)
  if (na - 1 == 0) = true then pure (ForInStep.done (some (a.extract 0 (na - 1) ++ b.extract 0 nb ++ (out.push x).reverse), na - 1, nb, out.push x, mg, ac, bc))
  else if (decide (ac < 7) && decide (bc < 7)) = true then pure (ForInStep.done (none, na - 1, nb, out.push x, mg, ac, bc))
  else pure (ForInStep.yield (none, na - 1, nb, out.push x, mg, ac, bc))
noncomputable def hi2 (a b : Array Keyed) (na nb : Nat) (out : Array Keyed) (mg ac bc₀ : Nat) : StateT SortSt Sem (ForInStep GH) := do
  let x ← elem' b (nb - 1)
  if (nb - 1 == 1) = true then pure (ForInStep.done (some (b.extract 0 (nb - 1) ++ a.extract 0 na ++ (out.push x).reverse), na, nb - 1, out.push x, mg, ac, bc₀))
  else do
    let y ← elem' a (na - 1)
    let r ← gallop' true y b 0 (nb - 1) (nb - 1 - 1)
    match r with
    | some at_ =>
      if nb - 1 - at_ > 0 then
        if (at_ == 1) = true then pure (ForInStep.done (some (b.extract 0 at_ ++ a.extract 0 na ++ (out.push x ++ (b.extract at_ (nb - 1)).reverse).reverse), na, at_, out.push x ++ (b.extract at_ (nb - 1)).reverse, mg, ac, nb - 1 - at_))
        else if (at_ == 0) = true then pure (ForInStep.done (some (a.extract 0 na ++ b.extract 0 at_ ++ (out.push x ++ (b.extract at_ (nb - 1)).reverse).reverse), na, at_, out.push x ++ (b.extract at_ (nb - 1)).reverse, mg, ac, nb - 1 - at_))
        else hi3 a b na at_ (out.push x ++ (b.extract at_ (nb - 1)).reverse) mg ac (nb - 1 - at_)
      else hi3 a b na (nb - 1) (out.push x) mg ac (nb - 1 - at_)
    | _ => pure (ForInStep.done (some (a.extract 0 na ++ b.extract 0 (nb - 1) ++ (out.push x).reverse), na, nb - 1, out.push x, mg, ac, bc₀))
noncomputable def hi1 (a b : Array Keyed) (na nb : Nat) (out : Array Keyed) (mg ac₀ bc₀ : Nat) : StateT SortSt Sem (ForInStep GH) := do
  setGal' mg
  let x ← elem' b (nb - 1)
  let r ← gallop' false x a 0 na (na - 1)
  match r with
  | some at_ =>
    if na - at_ > 0 then
      if (at_ == 0) = true then pure (ForInStep.done (some (a.extract 0 at_ ++ b.extract 0 nb ++ (out ++ (a.extract at_ na).reverse).reverse), at_, nb, out ++ (a.extract at_ na).reverse, mg, na - at_, bc₀))
      else hi2 a b at_ nb (out ++ (a.extract at_ na).reverse) mg (na - at_) bc₀
    else hi2 a b na nb out mg (na - at_) bc₀
  | _ => pure (ForInStep.done (some (a.extract 0 na ++ b.extract 0 nb ++ out.reverse), na, nb, out, mg, ac₀, bc₀))
noncomputable def hi0 (a b : Array Keyed) (mg : Nat) (na nb : Nat) (out : Array Keyed) (ac bc : Nat) : StateT SortSt Sem (ForInStep PH) := do
  let x ← elem' b (nb - 1)
  let y ← elem' a (na - 1)
  let r ← lt' x y
  match r with
  | some aWins =>
    if aWins = true then do
      let x ← elem' a (na - 1)
      if (na - 1 == 0) = true then pure (ForInStep.done (some (a.extract 0 (na - 1) ++ b.extract 0 nb ++ (out.push x).reverse), na - 1, nb, out.push x, ac + 1, 0))
      else if ac + 1 ≥ mg then pure (ForInStep.done (none, na - 1, nb, out.push x, ac + 1, 0))
      else pure (ForInStep.yield (none, na - 1, nb, out.push x, ac + 1, 0))
    else do
      let x ← elem' b (nb - 1)
      if (nb - 1 == 1) = true then pure (ForInStep.done (some (b.extract 0 (nb - 1) ++ a.extract 0 na ++ (out.push x).reverse), na, nb - 1, out.push x, 0, bc + 1))
      else if bc + 1 ≥ mg then pure (ForInStep.done (none, na, nb - 1, out.push x, 0, bc + 1))
      else pure (ForInStep.yield (none, na, nb - 1, out.push x, 0, bc + 1))
  | _ => pure (ForInStep.done (some (a.extract 0 na ++ b.extract 0 nb ++ out.reverse), na, nb, out, ac, bc))
noncomputable def hiO (a b : Array Keyed) (na nb : Nat) (out : Array Keyed) (mg : Nat) : StateT SortSt Sem (ForInStep OH) := do
  let s1 ← forIn [0:a.size + b.size] ((none, na, nb, out, 0, 0) : PH) fun _ c => hi0 a b mg c.2.1 c.2.2.1 c.2.2.2.1 c.2.2.2.2.1 c.2.2.2.2.2
  match s1.1 with
  | some r => pure (ForInStep.done (some r, s1.2.1, s1.2.2.1, s1.2.2.2.1, mg))
  | none => do
    liftM (rule "list.sort.gallop")
    let s2 ← forIn [0:a.size + b.size] ((none, s1.2.1, s1.2.2.1, s1.2.2.2.1, mg + 1, s1.2.2.2.2.1, s1.2.2.2.2.2) : GH) fun _ c =>
      if c.2.2.2.2.1 > 1 then hi1 a b c.2.1 c.2.2.1 c.2.2.2.1 (c.2.2.2.2.1 - 1) c.2.2.2.2.2.1 c.2.2.2.2.2.2 else hi1 a b c.2.1 c.2.2.1 c.2.2.2.1 c.2.2.2.2.1 c.2.2.2.2.2.1 c.2.2.2.2.2.2
    match s2.1 with
    | some r => pure (ForInStep.done (some r, s2.2.1, s2.2.2.1, s2.2.2.2.1, s2.2.2.2.2.1))
    | none => do
      setGal' (s2.2.2.2.2.1 + 1)
      pure (ForInStep.yield (none, s2.2.1, s2.2.2.1, s2.2.2.2.1, s2.2.2.2.2.1 + 1))
theorem mergeHi_eq0 (a b : Array Keyed) : mergeHi' a b = (do
  rule "list.sort.merge-hi"
  let total := a.size + b.size
  let done (out : Array Keyed) (na nb : Nat) := a.extract 0 na ++ b.extract 0 nb ++ out.reverse
  let firstOfB (out : Array Keyed) (na nb : Nat) := b.extract 0 nb ++ a.extract 0 na ++ out.reverse
  let mut na := a.size - 1
  let mut nb := b.size
  let mut out : Array Keyed := #[← elem' a na]
  if na == 0 then return done out na nb
  if nb == 1 then return firstOfB out na nb
  let mut minGallop := gallopOf (← get)
  for _ in [0:total] do
    let mut acount := 0
    let mut bcount := 0
    for _ in [0:total] do
      let some aWins ← lt' (← elem' b (nb - 1)) (← elem' a (na - 1)) | return done out na nb
      if aWins then
        na := na - 1; out := out.push (← elem' a na); acount := acount + 1; bcount := 0
        if na == 0 then return done out na nb
        if acount ≥ minGallop then break
      else
        nb := nb - 1; out := out.push (← elem' b nb); bcount := bcount + 1; acount := 0
        if nb == 1 then return firstOfB out na nb
        if bcount ≥ minGallop then break
    rule "list.sort.gallop"
    minGallop := minGallop + 1
    for _ in [0:total] do
      if minGallop > 1 then minGallop := minGallop - 1
      setGal' minGallop
      let some at_ ← gallop' false (← elem' b (nb - 1)) a 0 na (na - 1) | return done out na nb
      let k := na - at_
      acount := k
      if k > 0 then
        out := out ++ (a.extract at_ na).reverse; na := at_
        if na == 0 then return done out na nb
      nb := nb - 1; out := out.push (← elem' b nb)
      if nb == 1 then return firstOfB out na nb
      let some at_ ← gallop' true (← elem' a (na - 1)) b 0 nb (nb - 1) | return done out na nb
      let k := nb - at_
      bcount := k
      if k > 0 then
        out := out ++ (b.extract at_ nb).reverse; nb := at_
        if nb == 1 then return firstOfB out na nb
        if nb == 0 then return done out na nb
      na := na - 1; out := out.push (← elem' a na)
      if na == 0 then return done out na nb
      if acount < 7 && bcount < 7 then break
    minGallop := minGallop + 1
    setGal' minGallop
  unsupported "internal:list.sort.merge-bound") := rfl
theorem mergeHi_eq (a b : Array Keyed) : mergeHi' a b = (do
  liftM (rule "list.sort.merge-hi")
  let x ← elem' a (a.size - 1)
  if (a.size - 1 == 0) = true then pure (a.extract 0 (a.size - 1) ++ b.extract 0 b.size ++ (#[x] : Array Keyed).reverse)
  else if (b.size == 1) = true then pure (b.extract 0 b.size ++ a.extract 0 (a.size - 1) ++ (#[x] : Array Keyed).reverse)
  else do
    let st ← get
    let c ← forIn [0:a.size + b.size] ((none, a.size - 1, b.size, #[x], gallopOf st) : OH) fun _ c => hiO a b c.2.1 c.2.2.1 c.2.2.2.1 c.2.2.2.2
    match c.1 with
    | some r => pure r
    | none => liftM (unsupported "internal:list.sort.merge-bound" : Sem (Array Keyed))) := by
  rw [mergeHi_eq0]
  refine congrArg (bind _) (funext fun _ => ?_)
  refine congrArg (bind (elem' a (a.size - 1))) (funext fun x => ?_)
  refine ite_congr rfl (fun _ => rfl) (fun _ => ?_)
  refine ite_congr rfl (fun _ => rfl) (fun _ => ?_)
  refine congrArg (bind get) (funext fun st => ?_)
  refine bind_two ?_ (fun c => ?_)
  · refine congrArg (forIn [0:a.size + b.size] _) (funext fun _ => funext fun c => ?_)
    unfold hiO
    refine bind_two rfl (fun s1 => ?_)
    obtain ⟨r1, o1, i1, j1, a1, b1⟩ := s1
    cases r1 with
    | some r => rfl
    | none =>
      refine bind_two rfl (fun _ => ?_)
      refine bind_two rfl (fun s2 => ?_)
      obtain ⟨r2, o2, i2, j2, m2, a2, b2⟩ := s2
      cases r2 <;> rfl
  · obtain ⟨r, c⟩ := c
    cases r <;> rfl



end
-- part S11
example : True := by w_top off; trivial
section
noncomputable def HI (a b : Array Keyed) (na nb : Nat) (out : Array Keyed) : Prop := HInv a.toList b.toList out.toList.reverse na nb ∧ 1 ≤ na ∧ na ≤ a.size ∧ 2 ≤ nb ∧ nb ≤ b.size ∧ out.size + na + nb = a.size + b.size
theorem take_le {xs : Array Keyed} {m n : Nat} {c : Int} (h : ∀ i, i < m → K xs (0 + i) ≤ c) (hm : m = n) : ∀ y ∈ xs.toList.take n, kk y ≤ c := fun y hy => by
  subst hm
  obtain ⟨i, hi, rfl⟩ := List.mem_iff_getElem.mp hy
  rw [List.length_take] at hi
  have e := h i (by lia)
  rw [Nat.zero_add, K_list (List.getElem?_eq_getElem (by lia))] at e
  rw [List.getElem_take]
  exact e
theorem toL_hi (a b out : Array Keyed) (na nb : Nat) : (a.extract 0 na ++ b.extract 0 nb ++ out.reverse).toList = a.toList.take na ++ b.toList.take nb ++ out.toList.reverse := by
  simp [List.extract]
theorem toL_cut (xs out : Array Keyed) (m n : Nat) : (out ++ (xs.extract m n).reverse).toList.reverse = (xs.toList.drop m).take (n - m) ++ out.toList.reverse := by
  simp [List.extract]
theorem toL_push (out : Array Keyed) (p : Keyed) : (out.push p).toList.reverse = p :: out.toList.reverse := by simp
theorem hi_done {a b out : Array Keyed} {na nb : Nat} (H : MH a b) (h : HInv a.toList b.toList out.toList.reverse na nb) (he : na = 0 ∨ nb = 0) : GoodA a b (a.extract 0 na ++ b.extract 0 nb ++ out.reverse) := by
  unfold GoodA
  rw [toL_hi]
  exact h.done H.ua H.ub he
theorem hi_first {a b out : Array Keyed} {na nb : Nat} (H : MH a b) (h : HInv a.toList b.toList out.toList.reverse na nb) (he : nb = 1) : GoodA a b (b.extract 0 nb ++ a.extract 0 na ++ out.reverse) := by
  unfold GoodA
  rw [toL_hi]
  subst he
  refine h.first H.ua H.ub fun x hx y hy => ?_
  have hn := H.nb
  have h0 : b.toList[0]? = some b.toList[0] := List.getElem?_eq_getElem (by rw [Array.length_toList]; lia)
  rw [take_snoc' (n := 0) h0] at hx
  simp only [List.take_zero, List.nil_append, List.mem_singleton] at hx
  subst hx
  exact H.first _ h0 y hy
noncomputable def GPH (a b X : Array Keyed) (pd : Array (Nat × Nat × Nat)) (N : Nat) (r : ForInStep GH) (st : SortSt) : Prop := ST X pd st ∧ match r with
  | .done c => (∃ res, c.1 = some res ∧ GoodA a b res) ∨ (c.1 = none ∧ HI a b c.2.1 c.2.2.1 c.2.2.2.1 ∧ N ≤ c.2.2.2.1.size)
  | .yield c => c.1 = none ∧ HI a b c.2.1 c.2.2.1 c.2.2.2.1 ∧ N ≤ c.2.2.2.1.size
noncomputable def GPH0 (a b X : Array Keyed) (pd : Array (Nat × Nat × Nat)) (N : Nat) (r : ForInStep PH) (st : SortSt) : Prop := ST X pd st ∧ match r with
  | .done c => (∃ res, c.1 = some res ∧ GoodA a b res) ∨ (c.1 = none ∧ HI a b c.2.1 c.2.2.1 c.2.2.2.1 ∧ N ≤ c.2.2.2.1.size)
  | .yield c => c.1 = none ∧ HI a b c.2.1 c.2.2.1 c.2.2.2.1 ∧ N ≤ c.2.2.2.1.size
section
variable {prog : Program} {w : World} {A : Around} {E : Value → Shared → Prop} {s : Shared} {X : Array Keyed} {pd : Array (Nat × Nat × Nat)} {a b : Array Keyed}
theorem hi3_ok {st : SortSt} {out : Array Keyed} {na nb mg ac bc N : Nat} (H : MH a b) (hst : ST X pd st) (hI : HI a b na nb out) (hle : ∀ p, a.toList[na - 1]? = some p → ∀ y ∈ b.toList.take nb, kk y ≤ kk p) (hN : N ≤ out.size + 1) :
    wpS (model prog w) A E s (hi3 a b na nb out mg ac bc) (GPH a b X pd N) st := by
  obtain ⟨hM, n1, n2, n3, n4, hs⟩ := hI
  obtain ⟨p, t, e1, e2, e3, e4⟩ := elem_at H.ka (i := na - 1) (by lia)
  have h1 : HInv a.toList b.toList (out.push p).toList.reverse (na - 1) nb := by
    rw [toL_push]
    exact HInv.pushA (n := na - 1) (by rw [show na - 1 + 1 = na by lia]; exact hM) H.ua e2 (hle p e2)
  have hsz : (out.push p).size = out.size + 1 := Array.size_push ..
  unfold hi3
  refine wpS_bind (elem_ok e1 ?_)
  by_cases h : na - 1 = 0
  · rw [if_pos (by simpa using h)]
    exact wpS_pure ⟨hst, .inl ⟨_, rfl, hi_done H h1 (.inl h)⟩⟩
  · rw [if_neg (by simpa using h)]
    have hLI : HI a b (na - 1) nb (out.push p) := ⟨h1, by lia, by lia, n3, n4, by lia⟩
    split
    · exact wpS_pure ⟨hst, .inr ⟨rfl, hLI, by dsimp only; lia⟩⟩
    · exact wpS_pure ⟨hst, rfl, hLI, by dsimp only; lia⟩
theorem hi2_ok {st : SortSt} {out : Array Keyed} {na nb mg ac bc N : Nat} (H : MH a b) (hst : ST X pd st) (hI : HI a b na nb out) (hle : ∀ p, b.toList[nb - 1]? = some p → ∀ y ∈ a.toList.take na, kk y ≤ kk p) (hN : N ≤ out.size + 1) :
    wpS (model prog w) A E s (hi2 a b na nb out mg ac bc) (GPH a b X pd N) st := by
  obtain ⟨hM, n1, n2, n3, n4, hs⟩ := hI
  obtain ⟨p, t, e1, e2, e3, e4⟩ := elem_at H.kb (i := nb - 1) (by lia)
  obtain ⟨q, u, f1, f2, f3, f4⟩ := elem_at H.ka (i := na - 1) (by lia)
  have h1 : HInv a.toList b.toList (out.push p).toList.reverse na (nb - 1) := by
    rw [toL_push]
    exact HInv.pushB (n := nb - 1) (by rw [show nb - 1 + 1 = nb by lia]; exact hM) H.ub e2 (hle p e2)
  have hsz : (out.push p).size = out.size + 1 := Array.size_push ..
  unfold hi2
  refine wpS_bind (elem_ok e1 ?_)
  by_cases h : nb - 1 = 1
  · rw [if_pos (by simpa using h)]
    exact wpS_pure ⟨hst, .inl ⟨_, rfl, hi_first H h1 h⟩⟩
  · rw [if_neg (by simpa using h)]
    refine wpS_bind (elem_ok f1 ?_)
    refine wpS_bind (gallop_two hst.kind H.kb H.ub f3 (by lia) (by lia) fun k hk g1 g2 => ?_)
    simp only [if_true] at g1 g2
    have hq : ∀ p', a.toList[na - 1]? = some p' → ∀ y ∈ b.toList.take k, kk y ≤ kk p' := fun p' hp' => by
      rw [eq_of_at f2 hp']
      exact take_le (fun i hi => Int.le_of_lt (g1 i hi)) rfl
    have hla := le_last H.ua f2
    rw [show na - 1 + 1 = na by lia] at hla
    dsimp only
    by_cases hk0 : nb - 1 - k > 0
    · rw [if_pos hk0]
      have h2 : HInv a.toList b.toList (out.push p ++ (b.extract k (nb - 1)).reverse).toList.reverse na k := by
        rw [toL_cut]
        refine HInv.takeB H.ub k (nb - 1 - k) (by rw [show k + (nb - 1 - k) = nb - 1 by lia]; exact h1) (by rw [Array.length_toList]; lia) fun i i1 i2 p' hp' y hy => ?_
        have := g2 i i1 (by lia)
        rw [Nat.zero_add, K_list hp'] at this
        exact Int.le_trans (hla y hy) this
      have hsz2 : (out.push p ++ (b.extract k (nb - 1)).reverse).size = out.size + 1 + (nb - 1 - k) := by
        rw [Array.size_append, hsz, Array.size_reverse, Array.size_extract]; lia
      by_cases h' : k = 1
      · rw [if_pos (by simpa using h')]
        exact wpS_pure ⟨hst, .inl ⟨_, rfl, hi_first H h2 h'⟩⟩
      · rw [if_neg (by simpa using h')]
        by_cases h'' : k = 0
        · rw [if_pos (by simpa using h'')]
          exact wpS_pure ⟨hst, .inl ⟨_, rfl, hi_done H h2 (.inr h'')⟩⟩
        · rw [if_neg (by simpa using h'')]
          exact hi3_ok H hst ⟨h2, n1, n2, by lia, by lia, by lia⟩ hq (by lia)
    · rw [if_neg hk0]
      have : k = nb - 1 := by lia
      subst this
      exact hi3_ok H hst ⟨h1, n1, n2, by lia, by lia, by lia⟩ hq (by lia)
theorem hi1_ok {st : SortSt} {out : Array Keyed} {na nb mg ac bc N : Nat} (H : MH a b) (hst : ST X pd st) (hI : HI a b na nb out) (hN : N ≤ out.size + 1) :
    wpS (model prog w) A E s (hi1 a b na nb out mg ac bc) (GPH a b X pd N) st := by
  obtain ⟨hM, n1, n2, n3, n4, hs⟩ := hI
  obtain ⟨p, t, e1, e2, e3, e4⟩ := elem_at H.kb (i := nb - 1) (by lia)
  have hlb := le_last H.ub e2
  rw [show nb - 1 + 1 = nb by lia] at hlb
  unfold hi1
  refine wpS_bind (gal_ok hst fun st hst => ?_)
  refine wpS_bind (elem_ok e1 ?_)
  refine wpS_bind (gallop_two hst.kind H.ka H.ua e3 (by lia) (by lia) fun k hk g1 g2 => ?_)
  simp only [Bool.false_eq_true, if_false] at g1 g2
  have hq : ∀ p', b.toList[nb - 1]? = some p' → ∀ y ∈ a.toList.take k, kk y ≤ kk p' := fun p' hp' => by
    rw [eq_of_at e2 hp']
    exact take_le g1 rfl
  dsimp only
  by_cases hk0 : na - k > 0
  · rw [if_pos hk0]
    have h2 : HInv a.toList b.toList (out ++ (a.extract k na).reverse).toList.reverse k nb := by
      rw [toL_cut]
      refine HInv.takeA H.ua k (na - k) (by rw [show k + (na - k) = na by lia]; exact hM) (by rw [Array.length_toList]; lia) fun i i1 i2 p' hp' y hy => ?_
      have := g2 i i1 (by lia)
      rw [Nat.zero_add, K_list hp'] at this
      exact Int.le_trans (hlb y hy) (Int.le_of_lt this)
    have hsz2 : (out ++ (a.extract k na).reverse).size = out.size + (na - k) := by
      rw [Array.size_append, Array.size_reverse, Array.size_extract]; lia
    by_cases h'' : k = 0
    · rw [if_pos (by simpa using h'')]
      exact wpS_pure ⟨hst, .inl ⟨_, rfl, hi_done H h2 (.inl h'')⟩⟩
    · rw [if_neg (by simpa using h'')]
      exact hi2_ok H hst ⟨h2, by lia, by lia, n3, n4, by lia⟩ hq (by lia)
  · rw [if_neg hk0]
    have : k = na := by lia
    subst this
    exact hi2_ok H hst ⟨hM, n1, n2, n3, n4, hs⟩ hq (by lia)
theorem hi0_ok {st : SortSt} {out : Array Keyed} {na nb mg ac bc N : Nat} (H : MH a b) (hst : ST X pd st) (hI : HI a b na nb out) (hN : N ≤ out.size + 1) :
    wpS (model prog w) A E s (hi0 a b mg na nb out ac bc) (GPH0 a b X pd N) st := by
  obtain ⟨hM, n1, n2, n3, n4, hs⟩ := hI
  obtain ⟨p, t, e1, e2, e3, e4⟩ := elem_at H.kb (i := nb - 1) (by lia)
  obtain ⟨q, u, f1, f2, f3, f4⟩ := elem_at H.ka (i := na - 1) (by lia)
  have hlb := le_last H.ub e2
  rw [show nb - 1 + 1 = nb by lia] at hlb
  have hla := le_last H.ua f2
  rw [show na - 1 + 1 = na by lia] at hla
  unfold hi0
  refine wpS_bind (elem_ok e1 (wpS_bind (elem_ok f1 (wpS_bind (lt_two hst.kind e3 f3 ?_)))))
  dsimp only
  by_cases hlt : kk p < kk q
  · rw [if_pos (by simpa using hlt)]
    refine wpS_bind (elem_ok f1 ?_)
    have h1 : HInv a.toList b.toList (out.push q).toList.reverse (na - 1) nb := by
      rw [toL_push]
      exact HInv.pushA (n := na - 1) (by rw [show na - 1 + 1 = na by lia]; exact hM) H.ua f2 fun y hy => Int.le_trans (hlb y hy) (Int.le_of_lt hlt)
    have hsz : (out.push q).size = out.size + 1 := Array.size_push ..
    by_cases h : na - 1 = 0
    · rw [if_pos (by simpa using h)]
      exact wpS_pure ⟨hst, .inl ⟨_, rfl, hi_done H h1 (.inl h)⟩⟩
    · rw [if_neg (by simpa using h)]
      have hLI : HI a b (na - 1) nb (out.push q) := ⟨h1, by lia, by lia, n3, n4, by lia⟩
      split
      · exact wpS_pure ⟨hst, .inr ⟨rfl, hLI, by dsimp only; lia⟩⟩
      · exact wpS_pure ⟨hst, rfl, hLI, by dsimp only; lia⟩
  · rw [if_neg (by simpa using hlt)]
    refine wpS_bind (elem_ok e1 ?_)
    have h1 : HInv a.toList b.toList (out.push p).toList.reverse na (nb - 1) := by
      rw [toL_push]
      exact HInv.pushB (n := nb - 1) (by rw [show nb - 1 + 1 = nb by lia]; exact hM) H.ub e2 fun y hy => Int.le_trans (hla y hy) (Int.not_lt.mp hlt)
    have hsz : (out.push p).size = out.size + 1 := Array.size_push ..
    by_cases h : nb - 1 = 1
    · rw [if_pos (by simpa using h)]
      exact wpS_pure ⟨hst, .inl ⟨_, rfl, hi_first H h1 h⟩⟩
    · rw [if_neg (by simpa using h)]
      have hLI : HI a b na (nb - 1) (out.push p) := ⟨h1, n1, n2, by lia, by lia, by lia⟩
      split
      · exact wpS_pure ⟨hst, .inr ⟨rfl, hLI, by dsimp only; lia⟩⟩
      · exact wpS_pure ⟨hst, rfl, hLI, by dsimp only; lia⟩
theorem hiO_ok {st : SortSt} {out : Array Keyed} {na nb mg : Nat} (H : MH a b) (hst : ST X pd st) (hI : HI a b na nb out) :
    wpS (model prog w) A E s (hiO a b na nb out mg) (fun r st' => ST X pd st' ∧ match r with
      | .done c => ∃ res, c.1 = some res ∧ GoodA a b res
      | .yield c => c.1 = none ∧ HI a b c.2.1 c.2.2.1 c.2.2.2.1 ∧ out.size + 1 ≤ c.2.2.2.1.size) st := by
  unfold hiO
  refine wpS_bind (wpS_mono (wpS_forRange (I := fun _ c st' => ST X pd st' ∧ c.1 = none ∧ HI a b c.2.1 c.2.2.1 c.2.2.2.1 ∧ out.size ≤ c.2.2.2.1.size)
    (Q := fun c st' => ST X pd st' ∧ ((∃ res, c.1 = some res ∧ GoodA a b res) ∨ (c.1 = none ∧ HI a b c.2.1 c.2.2.1 c.2.2.2.1 ∧ out.size ≤ c.2.2.2.1.size))) ?step ?fin ⟨hst, rfl, hI, Nat.le_refl _⟩) ?post)
  case fin =>
    rintro c st' ⟨h1, h2, h3, h4⟩
    exact ⟨h1, .inr ⟨h2, h3, h4⟩⟩
  case step =>
    rintro x ⟨r, i, j, o, ac, bc⟩ st' _ _ ⟨h1, h2, h3, h4⟩
    dsimp only at h3 h4
    refine wpS_mono (hi0_ok (N := out.size) H h1 h3 (by show out.size ≤ o.size + 1; lia)) fun r st'' h => ?_
    obtain ⟨g1, g2⟩ := h
    cases r with
    | done c => exact ⟨g1, g2⟩
    | yield c => exact ⟨g1, g2⟩
  case post =>
    rintro ⟨r, i, j, o, ac, bc⟩ st' ⟨h1, h2⟩
    rcases h2 with ⟨res, e, hg⟩ | ⟨e, hL, hsz⟩
    · dsimp only at e; subst e
      exact wpS_pure ⟨h1, res, rfl, hg⟩
    · dsimp only at e hL hsz; subst e
      dsimp only
      refine wpS_bind (wpS_lift (wpAny_rule ⟨rfl, ?_⟩))
      have hpos : 1 ≤ a.size + b.size := by have := H.na; lia
      refine wpS_bind (wpS_mono (wpS_forRange (I := fun x c st' => ST X pd st' ∧ c.1 = none ∧ HI a b c.2.1 c.2.2.1 c.2.2.2.1 ∧ out.size + x ≤ c.2.2.2.1.size)
        (Q := fun c st' => ST X pd st' ∧ ((∃ res, c.1 = some res ∧ GoodA a b res) ∨ (c.1 = none ∧ HI a b c.2.1 c.2.2.1 c.2.2.2.1 ∧ out.size + 1 ≤ c.2.2.2.1.size))) ?step2 ?fin2 ⟨h1, rfl, hL, hsz⟩) ?post2)
      case fin2 =>
        rintro c st' ⟨h1, h2, h3, h4⟩
        rw [Nat.zero_max] at h4
        exact ⟨h1, .inr ⟨h2, h3, by lia⟩⟩
      case step2 =>
        rintro x ⟨r, i, j, o, m, ac, bc⟩ st' _ _ ⟨h1, h2, h3, h4⟩
        dsimp only at h3 h4
        have main (m' : Nat) : wpS (model prog w) A E s (hi1 a b i j o m' ac bc) (fun r st' => match r with
            | .done c' => ST X pd st' ∧ ((∃ res, c'.1 = some res ∧ GoodA a b res) ∨ (c'.1 = none ∧ HI a b c'.2.1 c'.2.2.1 c'.2.2.2.1 ∧ out.size + 1 ≤ c'.2.2.2.1.size))
            | .yield c' => ST X pd st' ∧ c'.1 = none ∧ HI a b c'.2.1 c'.2.2.1 c'.2.2.2.1 ∧ out.size + (x + 1) ≤ c'.2.2.2.1.size) st' := by
          refine wpS_mono (hi1_ok (N := out.size + (x + 1)) H h1 h3 (by lia)) fun r st'' h => ?_
          obtain ⟨g1, g2⟩ := h
          cases r with
          | done c =>
            refine ⟨g1, ?_⟩
            rcases g2 with g2 | ⟨g2, g3, g4⟩
            · exact .inl g2
            · exact .inr ⟨g2, g3, by lia⟩
          | yield c => exact ⟨g1, g2⟩
        dsimp only
        split
        · exact wpS_mono (main _) fun r st'' h => by cases r <;> exact h
        · exact wpS_mono (main _) fun r st'' h => by cases r <;> exact h
      case post2 =>
        rintro ⟨r, i, j, o, m, ac, bc⟩ st' ⟨h1, h2⟩
        rcases h2 with ⟨res, e, hg⟩ | ⟨e, hL, hsz⟩
        · dsimp only at e; subst e
          exact wpS_pure ⟨h1, res, rfl, hg⟩
        · dsimp only at e hL hsz; subst e
          dsimp only
          exact wpS_bind (gal_ok h1 fun st'' h'' => wpS_pure ⟨h'', rfl, hL, hsz⟩)
theorem merge_hi {st : SortSt} {Q : Array Keyed → SortSt → Prop} (H : MH a b) (hst : ST X pd st) (h : ∀ r st', ST X pd st' → GoodA a b r → Q r st') : wpS (model prog w) A E s (mergeHi' a b) Q st := by
  rw [mergeHi_eq]
  refine wpS_bind (wpS_lift (wpAny_rule ⟨rfl, ?_⟩))
  have hna := H.na
  have hnb := H.nb
  obtain ⟨p, t, e1, e2, e3, e4⟩ := elem_at H.ka (i := a.size - 1) (by lia)
  refine wpS_bind (elem_ok e1 ?_)
  have h0 : HInv a.toList b.toList [] (a.size - 1 + 1) b.size := by
    refine ⟨?_, List.Pairwise.nil, (fun _ _ _ h => nomatch h), (fun _ _ _ h => nomatch h)⟩
    rw [List.take_of_length_le (by rw [Array.length_toList]; lia), List.take_of_length_le (by rw [Array.length_toList]; lia), List.append_nil]
  have h1 : HInv a.toList b.toList (#[p] : Array Keyed).toList.reverse (a.size - 1) b.size := h0.pushA H.ua e2 fun y hy => H.last y (List.mem_of_mem_take hy) p (by rw [drop_cons e2]; exact .head _)
  by_cases ha : a.size - 1 = 0
  · rw [if_pos (by simpa using ha)]
    exact wpS_pure (h _ st hst (hi_done H h1 (.inl ha)))
  · rw [if_neg (by simpa using ha)]
    by_cases hb : b.size = 1
    · rw [if_pos (by simpa using hb)]
      exact wpS_pure (h _ st hst (hi_first H h1 hb))
    · rw [if_neg (by simpa using hb)]
      have hsz1 : (#[p] : Array Keyed).size = 1 := rfl
      have hL0 : HI a b (a.size - 1) b.size #[p] := ⟨h1, by lia, by lia, by lia, Nat.le_refl _, by lia⟩
      refine wpS_bind (wpS_get ?_)
      refine wpS_bind (wpS_mono (wpS_forRange (I := fun x c st' => ST X pd st' ∧ c.1 = none ∧ HI a b c.2.1 c.2.2.1 c.2.2.2.1 ∧ 1 + x ≤ c.2.2.2.1.size)
        (Q := fun c st' => ST X pd st' ∧ ∃ res, c.1 = some res ∧ GoodA a b res) ?step ?fin ⟨hst, rfl, hL0, Nat.le_refl _⟩) ?post)
      case fin =>
        rintro c st' ⟨h1, h2, h3, h4⟩
        rw [Nat.zero_max] at h4
        obtain ⟨_, q1, q2, q3, q4, q5⟩ := h3
        lia
      case step =>
        rintro x ⟨r, i, j, o, m⟩ st' _ _ ⟨h1, h2, h3, h4⟩
        dsimp only at h3 h4
        refine wpS_mono (hiO_ok H h1 h3) fun r st'' hr => ?_
        obtain ⟨g1, g2⟩ := hr
        cases r with
        | done c => exact ⟨g1, g2⟩
        | yield c => exact ⟨g1, g2.1, g2.2.1, by have g3 := g2.2.2; dsimp only at g3; lia⟩
      case post =>
        rintro ⟨r, i, j, o, m⟩ st' ⟨h1, res, e, hg⟩
        dsimp only at e; subst e
        exact wpS_pure (h _ _ h1 hg)
end



end
-- part S12
example : True := by w_top off; trivial
section
theorem mergeAt_eq (i : Nat) : mergeAt' i = (do
  let s ← get
  let (some (sa, na, power), some (sb, nb, _)) := ((pendingOf s)[i]?, (pendingOf s)[i + 1]?) | unsupported "internal:list.sort.pending"
  set (setPending s (((pendingOf s).setIfInBounds i (sa, na + nb, power)).eraseIdxIfInBounds (i + 1)))
  let some k ← gallop' false (← elem' (arrOf s) sb) (arrOf s) sa na 0 | return false
  let (sa, na) := (sa + k, na - k)
  if na == 0 then return true
  let some nb ← gallop' true (← elem' (arrOf s) (sa + na - 1)) (arrOf s) sb nb (nb - 1) | return false
  if nb == 0 then return true
  let x := (arrOf s).extract sa sb
  let y := (arrOf s).extract sb (sb + nb)
  let merged ← if na ≤ nb then mergeLo' x y else mergeHi' x y
  modify fun s => setArr s (merged.toList.zipIdx.foldl (fun a (p, j) => a.setIfInBounds (sa + j) p) (arrOf s))
  return (failedOf (← get)).isNone) := rfl
theorem write_back (sa : Nat) : ∀ (r : List Keyed) (i : Nat) (arr : Array Keyed), sa + i + r.length ≤ arr.size →
    ((r.zipIdx i).foldl (fun (a : Array Keyed) (x : Keyed × Nat) => a.setIfInBounds (sa + x.2) x.1) arr).toList = arr.toList.take (sa + i) ++ r ++ arr.toList.drop (sa + i + r.length)
  | [], i, arr, _ => by simp
  | p :: r, i, arr, h => by
    rw [List.zipIdx_cons, List.foldl_cons]
    rw [List.length_cons] at h
    have ih := write_back sa r (i + 1) (arr.setIfInBounds (sa + i) p) (by rw [Array.size_setIfInBounds]; lia)
    refine ih.trans ?_
    have hi : sa + i < arr.toList.length := by rw [Array.length_toList]; lia
    rw [Array.toList_setIfInBounds]
    have e1 : (arr.toList.set (sa + i) p).take (sa + (i + 1)) = arr.toList.take (sa + i) ++ [p] := by
      rw [show sa + (i + 1) = sa + i + 1 by lia, take_snoc' (p := p) (by rw [List.getElem?_set_self hi]), List.take_set_of_le (by lia)]
    have e2 : (arr.toList.set (sa + i) p).drop (sa + (i + 1) + r.length) = arr.toList.drop (sa + i + (p :: r).length) := by
      rw [List.drop_set_of_lt (by lia), List.length_cons]
      congr 1; lia
    rw [e1, e2]
    simp
theorem up_of_K {xs : Array Keyed} {lo n : Nat} (h : SF xs lo n) : Up ((xs.toList.drop lo).take n) := by
  refine List.pairwise_iff_getElem.mpr fun i j hi hj hij => ?_
  rw [List.length_take, List.length_drop] at hi hj
  have a1 : lo + i < xs.toList.length := by lia
  have a2 : lo + j < xs.toList.length := by lia
  have := h (lo + i) (lo + j) (by lia) (by lia) (by lia)
  rw [K_list (List.getElem?_eq_getElem a1), K_list (List.getElem?_eq_getElem a2)] at this
  simpa using this
theorem sf_of_up {xs : Array Keyed} (h : Up xs.toList) : SF xs 0 xs.size := fun i j _ hij hj => up_K h hij (by lia)
theorem mem_seg {xs : Array Keyed} {lo n : Nat} {p : Keyed} (hn : lo + n ≤ xs.size) (hp : p ∈ (xs.toList.drop lo).take n) : ∃ i, i < n ∧ K xs (lo + i) = kk p ∧ xs.toList[lo + i]? = some p := by
  obtain ⟨i, hi, rfl⟩ := List.mem_iff_getElem.mp hp
  rw [List.length_take, List.length_drop] at hi
  have a1 : lo + i < xs.toList.length := by rw [Array.length_toList]; lia
  refine ⟨i, by lia, ?_, ?_⟩
  · rw [K_list (List.getElem?_eq_getElem a1)]
    simp
  · rw [List.getElem?_eq_getElem a1]
    simp
theorem seg4 (L : List Keyed) (k n m : Nat) (h1 : k ≤ n) : L = L.take k ++ ((L.drop k).take (n - k) ++ ((L.drop n).take m ++ L.drop (n + m))) := by
  have e1 : (L.drop n).take m ++ L.drop (n + m) = L.drop n := by
    rw [← List.drop_drop, List.take_append_drop]
  have e2 : (L.drop k).take (n - k) ++ L.drop n = L.drop k := by
    have := List.take_append_drop (n - k) (L.drop k)
    rwa [List.drop_drop, show k + (n - k) = n by lia] at this
  rw [e1, e2, List.take_append_drop]
theorem mem_take_ints {xs : Array Keyed} {a₀ : Array Keyed} (hp : xs.Perm a₀) (h0 : IntKeys a₀) (l : List Keyed) (hl : ∀ p ∈ l, p ∈ xs.toList) : IntKeys l.toArray := fun p h => by
  rw [List.toList_toArray] at h
  exact h0 p ((Array.perm_iff_toList_perm.mp hp).mem_iff.mp (hl p h))
section
variable {prog : Program} {w : World} {A : Around} {E : Value → Shared → Prop} {s : Shared} {a₀ : Array Keyed}
theorem gallop_seg {st : SortSt} {left : Bool} {x : Keyed} {t : Tok} {xs : Array Keyed} {base n hint : Nat} {Q : Option Nat → SortSt → Prop} (hk : kindOf st = oneType') (h0 : IntKeys xs) (hu : SF xs base n) (hx : x = (.int (kk x) t, x.2)) (hsz : base + n ≤ xs.size) (hh : hint < n)
    (h : ∀ k, k ≤ n → (∀ i, i < k → if left then K xs (base + i) < kk x else K xs (base + i) ≤ kk x) → (∀ i, k ≤ i → i < n → if left then kk x ≤ K xs (base + i) else kk x < K xs (base + i)) → Q (some k) st) :
    wpS (model prog w) A E s (gallop' left x xs base n hint) Q st := by
  rw [hx]
  refine gallop_ok hk h0 hsz hh (fun i j hij hj hb => ?_) fun k hkn h1 h2 => h k hkn (fun i hi => ?_) fun i hi hin => ?_
  · have := hu (base + i) (base + j) (by lia) (by lia) (by lia)
    unfold GB at hb ⊢
    cases left with
    | true => simp only [if_true, decide_eq_true_eq] at hb ⊢; lia
    | false => simp only [Bool.false_eq_true, if_false, decide_eq_true_eq] at hb ⊢; lia
  · have hb := h1 i hi
    unfold GB at hb
    cases left with
    | true => simp only [if_true, decide_eq_true_eq] at hb ⊢; exact hb
    | false => simp only [Bool.false_eq_true, if_false, decide_eq_true_eq] at hb ⊢; exact hb
  · have hb := h2 i hi hin
    unfold GB at hb
    cases left with
    | true => simp only [if_true, decide_eq_false_iff_not] at hb ⊢; lia
    | false => simp only [Bool.false_eq_true, if_false, decide_eq_false_iff_not] at hb ⊢; lia
end



end
-- part S13
example : True := by w_top off; trivial
section
theorem pend2 {α : Type} (x y z : α) : ((#[x, y] : Array α).setIfInBounds 0 z).eraseIdxIfInBounds (0 + 1) = #[z] := by
  simp [Array.eraseIdxIfInBounds]
theorem K_ext {xs : Array Keyed} {lo hi j : Nat} (h : lo + j < hi) (hn : hi ≤ xs.size) : K (xs.extract lo hi) j = K xs (lo + j) := by
  refine K_congr ?_
  rw [Array.getElem?_extract, if_pos (by lia)]
theorem ext_list (xs : Array Keyed) (lo hi : Nat) : (xs.extract lo hi).toList = (xs.toList.drop lo).take (hi - lo) := by simp [List.extract]
theorem mem_ext {xs : Array Keyed} {lo hi : Nat} {y : Keyed} (hl : lo ≤ hi) (hn : hi ≤ xs.size) (hy : y ∈ (xs.extract lo hi).toList) : ∃ i, lo ≤ i ∧ i < hi ∧ K xs i = kk y := by
  rw [ext_list] at hy
  obtain ⟨i, h1, h2, _⟩ := mem_seg (by lia) hy
  exact ⟨lo + i, by lia, by lia, h2⟩
theorem mem_tail {xs : Array Keyed} {lo : Nat} {y : Keyed} (hy : y ∈ xs.toList.drop lo) : ∃ i, lo ≤ i ∧ i < xs.size ∧ K xs i = kk y := by
  obtain ⟨i, hi, rfl⟩ := List.mem_iff_getElem.mp hy
  rw [List.length_drop] at hi
  have a1 : lo + i < xs.toList.length := by lia
  refine ⟨lo + i, by lia, by rw [← Array.length_toList]; exact a1, ?_⟩
  rw [K_list (List.getElem?_eq_getElem a1)]
  simp
theorem mem_head {xs : Array Keyed} {n : Nat} {y : Keyed} (hy : y ∈ xs.toList.take n) : ∃ i, i < n ∧ i < xs.size ∧ K xs i = kk y := by
  obtain ⟨i, hi, rfl⟩ := List.mem_iff_getElem.mp hy
  rw [List.length_take] at hi
  have a1 : i < xs.toList.length := by lia
  refine ⟨i, by lia, by rw [← Array.length_toList]; exact a1, ?_⟩
  rw [K_list (List.getElem?_eq_getElem a1)]
  simp
section
variable {prog : Program} {w : World} {A : Around} {E : Value → Shared → Prop} {s : Shared} {a₀ : Array Keyed}
theorem merge_at {st : SortSt} {n m p0 p1 : Nat} {Q : Bool → SortSt → Prop} (h0 : IntKeys a₀) (hB : SBs a₀ #[(0, n, p0), (n, m, p1)] st) (hn : 1 ≤ n) (hm : 1 ≤ m) (hsz : n + m = a₀.size) (s1 : SF (arrOf st) 0 n) (s2 : SF (arrOf st) n m)
    (h : ∀ st', SBs a₀ #[(0, n + m, p0)] st' → SF (arrOf st') 0 (n + m) → Q true st') : wpS (model prog w) A E s (mergeAt' 0) Q st := by
  rw [mergeAt_eq]
  refine wpS_bind (wpS_get ?_)
  have hsz' : (arrOf st).size = n + m := by rw [hB.size]; exact hsz.symm
  rw [hB.pend]
  dsimp only
  have e0 : (#[(0, n, p0), (n, m, p1)] : Array (Nat × Nat × Nat))[0]? = some (0, n, p0) := rfl
  have e1 : (#[(0, n, p0), (n, m, p1)] : Array (Nat × Nat × Nat))[0 + 1]? = some (n, m, p1) := rfl
  rw [e0, e1]
  dsimp only
  have hB1 : SBs a₀ #[(0, n + m, p0)] (setPending st ((#[(0, n, p0), (n, m, p1)] : Array (Nat × Nat × Nat)).setIfInBounds 0 (0, n + m, p0) |>.eraseIdxIfInBounds (0 + 1))) := ⟨hB.perm, hB.kind, hB.failed, pend2 _ _ _⟩
  have kI : IntKeys (arrOf st) := fun p hp => h0 p ((Array.perm_iff_toList_perm.mp hB.perm).mem_iff.mp hp)
  obtain ⟨p, t, q1, q2, q3, q4⟩ := elem_at kI (i := n) (by lia)
  refine wpS_bind (show wpS (model prog w) A E s (set (setPending st ((#[(0, n, p0), (n, m, p1)] : Array (Nat × Nat × Nat)).setIfInBounds 0 (0, n + m, p0) |>.eraseIdxIfInBounds (0 + 1)))) _ st from wpS_modify (f := fun _ => setPending st ((#[(0, n, p0), (n, m, p1)] : Array (Nat × Nat × Nat)).setIfInBounds 0 (0, n + m, p0) |>.eraseIdxIfInBounds (0 + 1))) ?_)
  obtain ⟨st1, hst1⟩ : ∃ x, x = setPending st ((#[(0, n, p0), (n, m, p1)] : Array (Nat × Nat × Nat)).setIfInBounds 0 (0, n + m, p0) |>.eraseIdxIfInBounds (0 + 1)) := ⟨_, rfl⟩
  rw [← hst1] at hB1 ⊢
  have harr : arrOf st1 = arrOf st := by rw [hst1]
  clear hst1
  refine wpS_bind (elem_ok q1 ?_)
  refine wpS_bind (gallop_seg hB1.kind kI s1 q3 (by lia) (by lia) fun k hk g1 g2 => ?_)
  simp only [Bool.false_eq_true, if_false, Nat.zero_add] at g1 g2
  have s1' : ∀ i j, i ≤ j → j < n → K (arrOf st) i ≤ K (arrOf st) j := fun i j hij hj => s1 i j (Nat.zero_le _) hij (by lia)
  have fin (hle : K (arrOf st) (n - 1) ≤ K (arrOf st) n) : Q true st1 := h st1 hB1 (by
    rw [harr]
    intro i j _ hij hj
    by_cases c1 : j < n
    · exact s1' i j hij c1
    · by_cases c2 : n ≤ i
      · exact s2 i j c2 hij (by lia)
      · exact Int.le_trans (s1' i (n - 1) (by lia) (by lia)) (Int.le_trans hle (s2 n j (Nat.le_refl _) (by lia) (by lia))))
  dsimp only
  by_cases hk1 : n - k = 0
  · rw [if_pos (by simpa using hk1)]
    exact wpS_pure (fin (by have := g1 (n - 1) (by lia); rw [q4]; exact this))
  · rw [if_neg (by simpa using hk1)]
    obtain ⟨q, u, f1, f2, f3, f4⟩ := elem_at kI (i := n - 1) (by lia)
    rw [show 0 + k + (n - k) - 1 = n - 1 by lia]
    refine wpS_bind (elem_ok f1 ?_)
    refine wpS_bind (gallop_seg hB1.kind kI s2 f3 (by lia) (by lia) fun nb hnb g3 g4 => ?_)
    simp only [if_true] at g3 g4
    dsimp only
    by_cases hb0 : nb = 0
    · rw [if_pos (by simpa using hb0)]
      exact wpS_pure (fin (by have := g4 0 (by lia) (by lia); rw [f4]; exact this))
    · rw [if_neg (by simpa using hb0)]
      rw [Nat.zero_add]
      have szX : ((arrOf st).extract k n).size = n - k := by rw [Array.size_extract]; lia
      have szY : ((arrOf st).extract n (n + nb)).size = nb := by rw [Array.size_extract]; lia
      have hX : ∀ y ∈ ((arrOf st).extract k n).toList, kk p < kk y ∧ kk y ≤ kk q := fun y hy => by
        obtain ⟨i, i1, i2, i3⟩ := mem_ext (by lia) (by lia) hy
        rw [← i3, ← f4]
        exact ⟨g2 i i1 i2, s1' i (n - 1) (by lia) (by lia)⟩
      have hY : ∀ y ∈ ((arrOf st).extract n (n + nb)).toList, kk p ≤ kk y ∧ kk y < kk q := fun y hy => by
        obtain ⟨i, i1, i2, i3⟩ := mem_ext (by lia) (by lia) hy
        rw [← i3, ← q4]
        refine ⟨s2 n i (Nat.le_refl _) i1 (by lia), ?_⟩
        have := g3 (i - n) (by lia)
        rwa [show n + (i - n) = i by lia] at this
      have H : MH ((arrOf st).extract k n) ((arrOf st).extract n (n + nb)) := by
        refine ⟨fun y hy => kI y ?_, fun y hy => kI y ?_, ?_, ?_, by lia, by lia, fun x hx y hy => ?_, fun x hx y hy => ?_⟩
        · rw [ext_list] at hy; exact List.mem_of_mem_drop (List.mem_of_mem_take hy)
        · rw [ext_list] at hy; exact List.mem_of_mem_drop (List.mem_of_mem_take hy)
        · rw [ext_list]
          exact up_of_K fun i j h1 h2 h3 => s1' i j h2 (by lia)
        · rw [ext_list]
          exact up_of_K fun i j h1 h2 h3 => s2 i j h1 h2 (by lia)
        · have e := K_list hx
          rw [K_ext (by lia) (by lia), Nat.add_zero, q4] at e
          rw [← e]
          exact Int.le_of_lt (hX y hy).1
        · obtain ⟨i, i1, i2, i3⟩ := mem_tail hy
          have : i = n - k - 1 := by lia
          subst this
          rw [K_ext (by lia) (by lia), show k + (n - k - 1) = n - 1 by lia, f4] at i3
          rw [← i3]
          exact Int.le_of_lt (hY x hx).2
      have done : ∀ r st', ST (arrOf st) #[(0, n + m, p0)] st' → GoodA ((arrOf st).extract k n) ((arrOf st).extract n (n + nb)) r →
          wpS (model prog w) A E s (do
            modify fun s => setArr s (List.foldl (fun a x => a.setIfInBounds (k + x.snd) x.fst) (arrOf s) r.toList.zipIdx)
            let __do_lift ← get
            pure (failedOf __do_lift).isNone) Q st' := by
        intro r st' hT hG
        obtain ⟨gp, gu⟩ := hG
        have hlen : r.toList.length = n - k + nb := by
          rw [gp.length_eq, List.length_append, Array.length_toList, Array.length_toList, szX, szY]
        have hw := write_back k r.toList 0 (arrOf st) (by lia)
        rw [Nat.add_zero, hlen, show k + (n - k + nb) = n + nb by lia] at hw
        have hr : ∀ y ∈ r.toList, y ∈ ((arrOf st).extract k n).toList ∨ y ∈ ((arrOf st).extract n (n + nb)).toList := fun y hy => List.mem_append.mp (gp.mem_iff.mp hy)
        refine wpS_bind (wpS_modify ?_)
        refine wpS_bind (wpS_get (wpS_pure ?_))
        have hf : (failedOf (setArr st' (List.foldl (fun a x => a.setIfInBounds (k + x.snd) x.fst) (arrOf st') r.toList.zipIdx))).isNone = true := by
          show (failedOf st').isNone = true
          rw [hT.failed]; rfl
        rw [hf]
        have ea : arrOf (setArr st' (List.foldl (fun a x => a.setIfInBounds (k + x.snd) x.fst) (arrOf st') r.toList.zipIdx)) = List.foldl (fun a x => a.setIfInBounds (k + x.snd) x.fst) (arrOf st) r.toList.zipIdx := by
          show List.foldl (fun a x => a.setIfInBounds (k + x.snd) x.fst) (arrOf st') r.toList.zipIdx = _
          rw [hT.arr]
        have hperm : (List.foldl (fun a x => a.setIfInBounds (k + x.snd) x.fst) (arrOf st) r.toList.zipIdx).Perm (arrOf st) := by
          rw [Array.perm_iff_toList_perm]
          refine (List.Perm.of_eq hw).trans ?_
          have e4 := seg4 (arrOf st).toList k n nb hk
          refine List.Perm.trans ?_ (List.Perm.of_eq e4.symm)
          rw [List.append_assoc]
          refine List.Perm.append_left _ ?_
          rw [← List.append_assoc]
          refine List.Perm.append_right _ (gp.trans (List.Perm.of_eq ?_))
          rw [ext_list, ext_list, Nat.add_sub_cancel_left]
        have hup : Up (List.foldl (fun a x => a.setIfInBounds (k + x.snd) x.fst) (arrOf st) r.toList.zipIdx).toList := by
          rw [show (List.foldl (fun a x => a.setIfInBounds (k + x.snd) x.fst) (arrOf st) r.toList.zipIdx).toList = _ from hw]
          have hpn : K (arrOf st) n = kk p := q4
          refine List.pairwise_append.mpr ⟨List.pairwise_append.mpr ⟨?_, gu, fun x hx y hy => ?_⟩, ?_, fun x hx y hy => ?_⟩
          · have := up_of_K (xs := arrOf st) (lo := 0) (n := k) fun i j h1 h2 h3 => s1' i j h2 (by lia)
            simpa using this
          · obtain ⟨i, i1, i2, i3⟩ := mem_head hx
            have := g1 i i1
            rw [i3] at this
            rcases hr y hy with hy | hy
            · exact Int.le_trans this (Int.le_of_lt (hX y hy).1)
            · exact Int.le_trans this (hY y hy).1
          · have := up_of_K (xs := arrOf st) (lo := n + nb) (n := m - nb) fun i j h1 h2 h3 => s2 i j (by lia) h2 (by lia)
            rwa [List.take_of_length_le (by rw [List.length_drop, Array.length_toList]; lia)] at this
          · obtain ⟨j, j1, j2, j3⟩ := mem_tail hy
            have hj := g4 (j - n) (by lia) (by lia)
            rw [show n + (j - n) = j by lia, j3] at hj
            rcases List.mem_append.mp hx with hx | hx
            · obtain ⟨i, i1, i2, i3⟩ := mem_head hx
              have a1 := g1 i i1
              have a2 := s2 n j (Nat.le_refl _) (by lia) (by lia)
              rw [i3] at a1
              rw [hpn, j3] at a2
              exact Int.le_trans a1 a2
            · rcases hr x hx with hx | hx
              · exact Int.le_trans (hX x hx).2 hj
              · exact Int.le_trans (Int.le_of_lt (hY x hx).2) hj
        refine h _ ⟨?_, hT.kind, hT.failed, hT.pend⟩ ?_
        · rw [ea]; exact hperm.trans hB.perm
        · rw [ea]
          have := sf_of_up hup
          rwa [hperm.size_eq, hsz'] at this
      split
      · exact wpS_bind (merge_lo H ⟨hB1.kind, harr, hB1.pend, hB1.failed⟩ done)
      · exact wpS_bind (merge_hi H ⟨hB1.kind, harr, hB1.pend, hB1.failed⟩ done)
end



end
-- part S14
example : True := by w_top off; trivial
section
theorem modify1 {α : Type} (a : α) (f : α → α) : (#[a] : Array α).modify 0 f = #[f a] := by
  apply Array.ext'
  rw [Array.toList_modify]
  rfl
theorem min_run64 : minRun' 64 64 0 = 32 := by
  rw [minRun'_succ, if_neg (by decide), minRun'_succ, if_pos (by decide)]
  decide
theorem sf_sorted {xs : Array Keyed} {n : Nat} (h : SF xs 0 n) : SortedTo xs n := fun i j hij hj => h i j (Nat.zero_le _) hij (by lia)
noncomputable def One (a₀ : Array Keyed) (st : SortSt) : Prop := SBs a₀ #[(0, 64, 0)] st ∧ SF (arrOf st) 0 64
noncomputable def Two (a₀ : Array Keyed) (st : SortSt) : Prop := ∃ n pw, 1 ≤ n ∧ n < 64 ∧ SBs a₀ #[(0, n, pw), (n, 64 - n, 0)] st ∧ SF (arrOf st) 0 n ∧ SF (arrOf st) n (64 - n)
section
variable {prog : Program} {w : World} {A : Around} {E : Value → Shared → Prop} {s : Shared} {a₀ : Array Keyed}
theorem sort_runs64 {st : SortSt} {Q : Unit → SortSt → Prop} (h0 : IntKeys a₀) (hB : SBs a₀ #[] st) (h64 : a₀.size = 64)
    (h : ∀ st', (arrOf st').Perm a₀ → failedOf st' = none → SortedTo (arrOf st') a₀.size → Q () st') : wpS (model prog w) A E s sortRuns' Q st := by
  rw [sortRuns'_eq]
  refine wpS_bind (wpS_get ?_)
  dsimp only
  simp only [hB.size, h64, min_run64]
  refine wpS_bind (wpS_mono (wpS_forRange
    (I := fun x c st' => (x = 0 ∧ c = (none, 0) ∧ SBs a₀ #[] st') ∨ (1 ≤ x ∧ c = (none, 64) ∧ One a₀ st') ∨ (x = 1 ∧ ∃ n, 32 ≤ n ∧ n < 64 ∧ c = (none, n) ∧ SBs a₀ #[(0, n, 0)] st' ∧ SF (arrOf st') 0 n) ∨ (2 ≤ x ∧ c = (none, 64) ∧ Two a₀ st'))
    (Q := fun c st' => c = (none, 64) ∧ (One a₀ st' ∨ Two a₀ st')) ?step ?fin (.inl ⟨rfl, rfl, hB⟩)) ?post)
  case fin =>
    rintro c st' (⟨hx, _, _⟩ | ⟨_, hc, hD⟩ | ⟨hx, _⟩ | ⟨_, hc, hD⟩)
    · lia
    · exact ⟨hc, .inl hD⟩
    · lia
    · exact ⟨hc, .inr hD⟩
  case step =>
    rintro x c st' _ hx (⟨rfl, rfl, hB'⟩ | ⟨_, rfl, hD⟩ | ⟨rfl, n, n1, n2, rfl, hB', hs'⟩ | ⟨_, rfl, hD⟩)
    · dsimp only
      rw [if_neg (by decide)]
      refine wpS_bind (count_run h0 (lo := 0) (nrem := 64 - 0) (by lia) (by lia) hB' fun m st2 hB2 _ hm1 hm2 hs2 => ?_)
      dsimp only
      by_cases hlt : m < 32
      · rw [if_pos hlt]
        refine wpS_bind (wpS_lift (wpAny_rule ⟨rfl, ?_⟩))
        rw [show min (64 - 0) 32 = 32 from rfl]
        refine wpS_bind (bin_sort h0 (lo := 0) (n := 32) (by lia) (by lia) hB2 hs2 fun st3 hB3 _ hs3 => ?_)
        simp only [Bool.not_true, Bool.false_eq_true, if_false]
        refine wpS_bind (wpS_get ?_)
        have hb : (pendingOf st3).back? = none := by rw [hB3.pend]; rfl
        rw [hb]
        dsimp only
        exact wpS_bind (wpS_modify (wpS_pure (.inr (.inr (.inl ⟨by decide, 32, by lia, by lia, rfl, ⟨hB3.perm, hB3.kind, hB3.failed, by show (pendingOf st3).push _ = _; rw [hB3.pend]; rfl⟩, hs3⟩)))))
      · rw [if_neg hlt]
        refine wpS_bind (wpS_get ?_)
        have hb : (pendingOf st2).back? = none := by rw [hB2.pend]; rfl
        rw [hb]
        dsimp only
        have hpd : (setPending st2 ((pendingOf st2).push (0, m, 0))) = setPending st2 #[(0, m, 0)] := by rw [hB2.pend]; rfl
        refine wpS_bind (wpS_modify (wpS_pure ?_))
        rw [hpd]
        by_cases hm : m = 64
        · subst hm
          exact .inr (.inl ⟨by lia, rfl, ⟨hB2.perm, hB2.kind, hB2.failed, rfl⟩, hs2⟩)
        · exact .inr (.inr (.inl ⟨by decide, m, by lia, by lia, by rw [Nat.zero_add], ⟨hB2.perm, hB2.kind, hB2.failed, rfl⟩, hs2⟩))
    · dsimp only
      rw [if_pos (Nat.le_refl _)]
      exact wpS_pure ⟨rfl, .inl hD⟩
    · dsimp only
      rw [if_neg (by lia)]
      refine wpS_bind (count_run h0 (lo := n) (nrem := 64 - n) (by lia) (by lia) hB' fun m st2 hB2 hk2 hm1 hm2 hs2 => ?_)
      dsimp only
      by_cases hlt : m < 32
      · rw [if_pos hlt]
        refine wpS_bind (wpS_lift (wpAny_rule ⟨rfl, ?_⟩))
        rw [Nat.min_eq_left (show 64 - n ≤ 32 by lia)]
        refine wpS_bind (bin_sort h0 (lo := n) (n := 64 - n) (by lia) (by lia) hB2 hs2 fun st3 hB3 hk3 hs3 => ?_)
        have hkk := hk2.trans hk3
        simp only [Bool.not_true, Bool.false_eq_true, if_false]
        refine wpS_bind (wpS_get ?_)
        have hb : (pendingOf st3).back? = some (0, n, 0) := by rw [hB3.pend]; rfl
        rw [hb]
        dsimp only
        refine wpS_bind (wpS_mono (wpS_forRange (I := fun _ c st'' => st'' = st3 ∧ c = (none, ())) (Q := fun c st'' => st'' = st3 ∧ c = (none, ())) ?_ (fun _ _ hh => hh) ⟨rfl, rfl⟩) ?_)
        · rintro x c st'' _ _ ⟨rfl, rfl⟩
          refine wpS_bind (wpS_get ?_)
          rw [hB3.pend]
          exact wpS_pure ⟨rfl, rfl⟩
        · rintro c st'' ⟨rfl, rfl⟩
          dsimp only
          refine wpS_bind (wpS_modify (wpS_bind (wpS_modify (wpS_pure (.inr (.inr (.inr ⟨by lia, ?_, n, power' 64 (2 * 0 + n) (2 * 0 + n + n + (64 - n)) 64, by lia, n2, ⟨hB3.perm, hB3.kind, hB3.failed, ?_⟩, ?_, ?_⟩)))))))
          · rw [show n + (64 - n) = 64 by lia]
          · show ((pendingOf st'').modify ((pendingOf st'').size - 1) _).push _ = _
            rw [hB3.pend]
            exact congrArg (fun z : Array (Nat × Nat × Nat) => z.push (n, 64 - n, 0)) (modify1 _ _)
          · exact fun i j a b c => by rw [hkk i (by lia), hkk j (by lia)]; exact hs' i j a b c
          · exact hs3
      · rw [if_neg hlt]
        have hm : m = 64 - n := by lia
        subst hm
        obtain ⟨st3, hst3⟩ : ∃ x, x = st2 := ⟨_, rfl⟩
        rw [← hst3] at hB2 hs2 hk2 ⊢
        have hB3 := hB2
        have hs3 := hs2
        refine wpS_bind (wpS_get ?_)
        have hb : (pendingOf st3).back? = some (0, n, 0) := by rw [hB3.pend]; rfl
        rw [hb]
        dsimp only
        refine wpS_bind (wpS_mono (wpS_forRange (I := fun _ c st'' => st'' = st3 ∧ c = (none, ())) (Q := fun c st'' => st'' = st3 ∧ c = (none, ())) ?_ (fun _ _ hh => hh) ⟨rfl, rfl⟩) ?_)
        · rintro x c st'' _ _ ⟨rfl, rfl⟩
          refine wpS_bind (wpS_get ?_)
          rw [hB3.pend]
          exact wpS_pure ⟨rfl, rfl⟩
        · rintro c st'' ⟨rfl, rfl⟩
          dsimp only
          refine wpS_bind (wpS_modify (wpS_bind (wpS_modify (wpS_pure (.inr (.inr (.inr ⟨by lia, ?_, n, power' 64 (2 * 0 + n) (2 * 0 + n + n + (64 - n)) 64, by lia, n2, ⟨hB3.perm, hB3.kind, hB3.failed, ?_⟩, ?_, ?_⟩)))))))
          · rw [show n + (64 - n) = 64 by lia]
          · show ((pendingOf st'').modify ((pendingOf st'').size - 1) _).push _ = _
            rw [hB3.pend]
            exact congrArg (fun z : Array (Nat × Nat × Nat) => z.push (n, 64 - n, 0)) (modify1 _ _)
          · exact fun i j a b c => by rw [hk2 i (by lia), hk2 j (by lia)]; exact hs' i j a b c
          · exact hs3
    · dsimp only
      rw [if_pos (Nat.le_refl _)]
      exact wpS_pure ⟨rfl, .inr hD⟩
  case post =>
    rintro c st' ⟨rfl, hD⟩
    dsimp only
    refine wpS_bind (wpS_mono (wpS_forRange (I := fun x c st'' => c = (none, ()) ∧ ((x = 0 ∧ Two a₀ st'') ∨ ∃ e, SBs a₀ #[e] st'' ∧ SF (arrOf st'') 0 64))
      (Q := fun c st'' => c = (none, ()) ∧ ∃ e, SBs a₀ #[e] st'' ∧ SF (arrOf st'') 0 64) ?lstep ?lfin ?linit) ?lpost)
    case linit =>
      rcases hD with hD | hD
      · exact ⟨rfl, .inr ⟨_, hD.1, hD.2⟩⟩
      · exact ⟨rfl, .inl ⟨rfl, hD⟩⟩
    case lfin =>
      rintro c st'' ⟨hc, ⟨h1, _⟩ | h2⟩
      · exact absurd h1 (by decide)
      · exact ⟨hc, h2⟩
    case lstep =>
      rintro x c st'' _ _ ⟨rfl, ⟨rfl, n, pw, n1, n2, hB', s1, s2⟩ | ⟨e, hB', hs⟩⟩
      · refine wpS_bind (wpS_get ?_)
        rw [hB'.pend]
        rw [if_neg (show ¬ (#[(0, n, pw), (n, 64 - n, 0)] : Array (Nat × Nat × Nat)).size ≤ 1 from (by decide : ¬ (2 ≤ 1)))]
        refine wpS_bind (show wpS (model prog w) A E s (mergeAt' 0) _ _ from merge_at h0 hB' n1 (by lia) (by lia) s1 s2 fun st3 hB3 hs3 => ?_)
        simp only [Bool.not_true, Bool.false_eq_true, if_false]
        rw [show n + (64 - n) = 64 by lia] at hs3
        exact wpS_pure ⟨rfl, .inr ⟨_, hB3, hs3⟩⟩
      · refine wpS_bind (wpS_get ?_)
        rw [hB'.pend]
        rw [if_pos (show (#[e] : Array (Nat × Nat × Nat)).size ≤ 1 from Nat.le_refl 1)]
        exact wpS_pure ⟨rfl, e, hB', hs⟩
    case lpost =>
      rintro c st'' ⟨rfl, e, hB', hs⟩
      exact wpS_pure (h _ hB'.perm hB'.failed (by rw [h64]; exact sf_sorted hs))
end



end
-- part S1
example : True := by w_top off; trivial
section
section
variable {prog : Program} {w : World} {A : Around} {E : Value → Shared → Prop} {s : Shared}
theorem sort64_tree {a : Addr} {vs : List Value} {ns : List Int} {n : Nat} {P : Fin → Shared → Prop} (ho : s.heap.get? a = some (seqObj "list" vs.toArray n)) (hI : IntsAre vs ns) (h64 : vs.length = 64)
    (h : ∀ (out : Array Value) (ns' : List Int), IntsAre out.toList ns' → ns'.Perm ns → ns'.Pairwise (· ≤ ·) → P (.done (.ret .none)) { s with heap := sortedHeap s.heap a vs out }) :
    wpAny (model prog w) A (Builtin.«list.sort» ⟨[.ref a], []⟩) P E s := by
  rw [list_sort_plain]
  have ha : a < s.heap.objs.size := Heap.lt_size ho
  refine wpAny_bind (listItems_at ho rfl (wpAny_bind (listUpdate_at ho rfl ?_)))
  obtain ⟨e1, ho1⟩ : ∃ e1, (s.heap.update a (Obj.mapSeq fun _ => #[])).get? a = some (seqObj "list" #[] e1) := ⟨_, get?_update_seq ho (fun _ => #[])⟩
  refine wpAny_bind (seqEpoch_at ho1 rfl (wpAny_bind (wpAny_newTuple (wpAny_bind (wpAny_newList (wpAny_holding ?_))))))
  have ho6 : (((s.heap.update a (Obj.mapSeq fun _ => #[])).push (seqObj "tuple" vs.toArray 0)).push (seqObj "list" #[] 0)).get? a = some (seqObj "list" #[] e1) := by
    rw [Heap.get?_push_ne _ _ _ (by rw [size_push', Heap.size_update]; exact Nat.ne_of_lt (Nat.lt_succ_of_lt ha)), Heap.get?_push_ne _ _ _ (by rw [Heap.size_update]; exact Nat.ne_of_lt ha)]
    exact ho1
  show wpAny (model prog w) A _ P E { s with heap := ((s.heap.update a (Obj.mapSeq fun _ => #[])).push (seqObj "tuple" vs.toArray 0)).push (seqObj "list" #[] 0) }
  dsimp only
  have hps : (pairsOf vs).size = 64 := (pairsOf_size vs).trans h64
  rw [if_neg (by rw [List.size_toArray]; lia), if_neg (by rw [List.size_toArray]; lia)]
  have hkind : keyKind' vs.toArray = pure oneType' := by
    match vs, hI, h64 with
    | [], _, h => cases h
    | [_], _, h => simp at h
    | _ :: _ :: _, hI, _ => exact keyKind_ints hI
  rw [hkind]
  refine wpAny_bind (wpAny_pure ?_)
  refine wpAny_bind (wpAny_mono (sort_runs64 (a₀ := pairsOf vs) (st := SortSt.mk' oneType' (vs.toArray.zip vs.toArray) #[] 7 none)
    (Q := fun _ st' => (arrOf st').Perm (pairsOf vs) ∧ failedOf st' = none ∧ SortedTo (arrOf st') (pairsOf vs).size)
    hI.intKeys ⟨Array.Perm.refl _, rfl, rfl, rfl⟩ hps fun st' a1 a2 a3 => ⟨a1, a2, a3⟩) ?_ fun _ _ e => e)
  rintro ⟨⟨⟩, st'⟩ s' ⟨rfl, hp, hf, hs⟩
  dsimp only
  refine wpAny_bind (seqEpoch_at ho6 rfl ?_)
  refine wpAny_bind (listUpdate_at ho6 rfl ?_ (hsz2 := by refine Nat.le_trans (Nat.le_of_eq ((Array.size_map ..).trans (hp.size_eq.trans hps))) ?_; rw [PySem.sizeLine_eq]; lia))
  rw [hf]
  simp only [bne_self_eq_false, Bool.false_eq_true, if_false]
  obtain ⟨ns', h1, h2, h3⟩ := sorted_out hI hp hs
  exact wpAny_pure (h _ ns' h1 h2 h3)
theorem sorted64_ints {l : Addr} {vs : List Value} {ns : List Int} {Q : Value → Shared → Prop} (hl : s.heap.IsList l vs.toArray) (hI : IntsAre vs ns) (h64 : vs.length = 64)
    (h : ∀ (out : Array Value) (ns' : List Int), IntsAre out.toList ns' → ns'.Perm ns → ns'.Pairwise (· ≤ ·) → Q (.ref (s.heap.objs.size + 1)) { s with heap := sortedAll s.heap vs out }) :
    wpAny (model prog w) A (call (.builtin "sorted") [.ref l]) Q E s := by
  refine Calls.call_function_entry kind_sorted plain_sorted entry_sorted (args_sorted1 _) ?_
  unfold Builtin.«sorted»
  refine wpAny_bind (m := checkCount "sorted" 1 1 _) (wpAny_pure ?_)
  refine wpAny_bind (collect_list hl (wpAny_bind (wpAny_newList ?_)) (by rw [h64, PySem.sizeLine_eq]; lia))
  have hsz : ((s.heap.push (seqObj "list" #[] 0)).update s.heap.objs.size (Obj.mapSeq (· ++ vs.toArray))).objs.size = s.heap.objs.size + 1 := by
    rw [Heap.size_update, size_push']
  have hoL : (((s.heap.push (seqObj "list" #[] 0)).update s.heap.objs.size (Obj.mapSeq (· ++ vs.toArray))).push (seqObj "list" vs.toArray 0)).get? (s.heap.objs.size + 1) = some (seqObj "list" vs.toArray 0) := by
    rw [← hsz]; exact Heap.get?_push_size _ rfl
  show wpAny _ _ _ _ _ { s with heap := ((s.heap.push (seqObj "list" #[] 0)).update s.heap.objs.size (Obj.mapSeq (· ++ vs.toArray))).push (seqObj "list" vs.toArray 0) }
  rw [hsz]
  refine wpAny_bind (wpAny_holding (wpAny_call_entry slot_list_sort ⟨_, hoL, rfl⟩ entry_list_sort (sort64_tree hoL hI h64 fun out ns' a1 a2 a3 => ⟨_, rfl, ?_⟩) (args_list_sort _)))
  exact wpAny_pure ⟨_, rfl, h out ns' a1 a2 a3⟩
theorem sorted64 {h₀ : Heap} {L : Addr} {m : PySem.Str → Option Value} {news : List (Addr × Obj)} {l : Addr} {vs : List Value} {ns : List Int} {Q : Value → Shared → Prop}
    (F : Fr h₀ L s.heap m) (N : News h₀ L s.heap news) (hl : s.heap.IsList l vs.toArray) (hI : IntsAre vs ns) (h64 : ns.length ≤ 64)
    (h : ∀ (D : Addr) (vs' : List Value) (ns' : List Int) (e : Nat) (h' : Heap), Fr h₀ L h' m → News h₀ L h' ((D, listOf vs'.toArray e) :: news) → IntsAre vs' ns' → ns'.Perm ns → ns'.Pairwise (· ≤ ·) → ns'.length ≤ 64 → Q (.ref D) { s with heap := h' }) :
    wpAny (model prog w) A (call (.builtin "sorted") [.ref l]) Q E s := by
  by_cases hlt : ns.length < 64
  · exact sorted_N F N hl hI (by rw [hI.length]; exact hlt) fun h' vs' ns' e F' N' a b c => h _ vs' ns' e h' F' N' a b c (by rw [b.length_eq]; exact h64)
  · refine sorted64_ints hl hI (by rw [hI.length]; lia) fun out ns' a1 a2 a3 => ?_
    obtain ⟨e, he⟩ := sortedAll_at s.heap vs out
    exact h _ out.toList ns' e _ (F.kept fun _ _ => sortedAll_old) (N.kept_cons F (fun _ _ => sortedAll_old) (Nat.le_succ _) he) a1 a2 a3 (by rw [a2.length_eq]; exact h64)
end



end
-- part B1
example : True := by w_top off; trivial
section
noncomputable abbrev Off4 (I C X D : Addr) (nw : List (Addr × Obj)) : Prop := ∀ p ∈ nw, p.1 ≠ I ∧ p.1 ≠ C ∧ p.1 ≠ X ∧ p.1 ≠ D
section
variable {prog : Program} {w : World} {A : Around} {E : Value → Shared → Prop} {s : Shared} {h₀ : Heap} {L : Addr} {m : PySem.Str → Option Value} {env : Env}
/-- a comprehension's block whose one bound name is captured by a block within -/
theorem block_C {elt iter : PySem.Expr} {x : PySem.Str} {px : Pos} {scope : Scope} {cl : List (PySem.Str × Addr)} {pos : Pos} {s₂ : Shared} {I : Addr} {fp : List Addr} {n : Nat} {P : Nat → Value → Prop} {St : Nat → Heap → Prop} {news : List (Addr × Obj)}
    {RR : Value → Addr → Result → Shared → Prop} (J : Nat → List Value → List (Addr × Obj) → Prop)
    (W : Walks prog w A I fp [I] n P St) (hsz : n ≤ sizeLine) (hIo : ∀ i h, St i h → ∃ o, h.get? I = some o)
    (hSt : ∀ i j ys nw h h' o, St i h → J j ys nw → h.get? I = some o → h'.get? I = some o → (∀ b o, h₀.get? b = some o → h'.get? b = some o) → News h₀ L h' nw → St i h')
    (hcf : ∀ k, cellsFrom k scope.names cl = (x, k) :: cl) (hpc : ∀ h, pushCells h scope.names = h.push { cls := .type "cell", data := .cell none })
    (hkind : scope.kind = .function) (hxk : (compEnvC scope ((x, 0) :: cl) 0 env).kindOf x = some .cell) (hst : St 0 s₂.heap) (hfp : ∀ b ∈ fp, b < s₂.heap.objs.size)
    (F : Fr h₀ L s₂.heap m) (N : News h₀ L s₂.heap news) (hIL : L ≠ I) (hI₀ : h₀.get? I = none) (off : ∀ p ∈ news, p.1 ≠ I) (hJ : J 0 [] news)
    (turn : ∀ i v oI C oC X oX D ys nw h tk (E' : Value → Shared → Prop), i < n → P i v → J i ys nw → oX.data = .cell (some v) → Fr h₀ L h m → News h₀ L h ((I, oI) :: (C, oC) :: (X, oX) :: (D, LCg.lst ys) :: nw) → Off4 I C X D nw →
      ((@Ne Nat I C) ∧ (@Ne Nat I X) ∧ (@Ne Nat I D) ∧ (@Ne Nat C X) ∧ (@Ne Nat C D) ∧ (@Ne Nat X D)) →
      wpAny (model prog w) A (eval elt (compEnvC scope ((x, X) :: cl) C env)) (fun y s₄ => ∃ h' tk' nw', s₄ = { s₂ with heap := h', toks := tk' } ∧ Fr h₀ L h' m ∧ News h₀ L h' ((I, oI) :: (C, oC) :: (X, oX) :: (D, LCg.lst ys) :: nw') ∧ Off4 I C X D nw' ∧ J (i + 1) (ys ++ [y]) nw') E' { s₂ with heap := h, toks := tk })
    (hRR : ∀ D C h tk m' ys nw, Fr h₀ L h m → News h₀ L h ((D, LCg.lst ys) :: nw) → (∀ p ∈ nw, p.1 ≠ D) → h.Ns C m' → h₀.get? C = none → h₀.get? D = none → C ≠ L → D ≠ L → C ≠ D → (∀ p ∈ nw, p.1 ≠ C) → J n ys nw → RR (.ref D) C (.ok .next) { s₂ with heap := h, toks := tk }) :
    wpAny (model prog w) A (newList []) (fun acc s₃ => wpAny (model prog w) A (newFunctionEnv scope env.globals cl [] env.qual none .none (some env)) (fun cenv s₄ =>
      codeAny (model prog w) A (.compStart (.ListComp elt [⟨.Name x px, iter, [], 0⟩] scope pos) 0 (.ref I) acc { cenv with scope := relabel scope env }) (RR acc cenv.locals) s₄) E s₃) E s₂ := by
  refine wpAny_newObj_type ?_
  simp only [newFunctionEnv, Option.isSome_some, if_true]
  refine wpAny_bind (wpAny_alloc ?_)
  refine wpAny_bind (wpAny_layCells _ (fun name kind cells => by cases hkc : kind == NameKind.cell <;> simp) _ _ _ _ ?_)
  simp only [List.forIn_nil]
  refine wpAny_bind (wpAny_pure (wpAny_pure ?_))
  dsimp only
  rw [hpc, hcf]
  have oldS : ∀ b o, s₂.heap.get? b = some o → b < s₂.heap.objs.size := fun b o e => Heap.lt_size e
  generalize hD : s₂.heap.objs.size = D at hfp oldS ⊢
  generalize hH1 : s₂.heap.push { cls := .type "list", dict := none, data := .seq ([] : List Value).toArray } = H1
  have s1 : H1.objs.size = D + 1 := by rw [← hH1, Heap.size_push, hD]
  rw [s1]
  generalize hC : D + 1 = C
  generalize hH2 : H1.push { cls := .type "dict", data := .dict #[] } = H2
  have s2 : H2.objs.size = D + 2 := by rw [← hH2, Heap.size_push, s1]
  rw [s2]
  generalize hX : D + 2 = X
  generalize hH3 : H2.push { cls := .type "cell", data := .cell none } = H3
  have g1 : H1.get? D = some (LCg.lst []) := by rw [← hH1, ← hD]; exact Heap.get?_push_size _ rfl
  have g2 : H2.get? C = some { cls := .type "dict", data := .dict #[] } := by rw [← hH2, ← hC, ← s1]; exact Heap.get?_push_size _ rfl
  have g3 : H3.get? X = some { cls := .type "cell", data := .cell none } := by rw [← hH3, ← hX, ← s2]; exact Heap.get?_push_size _ rfl
  have u3 : ∀ b o, H2.get? b = some o → H3.get? b = some o := fun b o e => by rw [← hH3]; exact Heap.get?_push_of_some _ e
  have u2 : ∀ b o, H1.get? b = some o → H3.get? b = some o := fun b o e => u3 b o (by rw [← hH2]; exact Heap.get?_push_of_some _ e)
  have u1 : ∀ b o, s₂.heap.get? b = some o → H3.get? b = some o := fun b o e => u2 b o (by rw [← hH1]; exact Heap.get?_push_of_some _ e)
  have nsC : H3.Ns C (fun _ => none) := by
    have q : H2.Ns C (fun _ => none) := by
      rw [← hH2, ← hC, ← s1]
      exact Heap.Ns.new H1 (.type "dict")
    exact q.keeps u3
  have fr0 : ∀ a, D ≤ a → h₀.get? a = none := fun a ha => by
    cases e : h₀.get? a with
    | none => rfl
    | some o' => exact absurd (oldS a o' (F.keep a o' e)) (Nat.not_lt.mpr ha)
  have hD₀ := fr0 D (Nat.le_refl _)
  have hC₀ := fr0 C (by lia)
  have hX₀ := fr0 X (by lia)
  have hIf : I ∈ fp := W.sub I (List.mem_singleton.mpr rfl)
  have hIlt := ltN (hfp I hIf)
  have hLlt := ltN (show L < D from hD ▸ F.ns.lt)
  have eC : @Eq Nat C (D + 1) := hC.symm
  have eX : @Eq Nat X (D + 2) := hX.symm
  have nIC : I ≠ C := Nat.ne_of_lt (by lia)
  have nIX : I ≠ X := Nat.ne_of_lt (by lia)
  have nID : I ≠ D := Nat.ne_of_lt hIlt
  have nCX : C ≠ X := Nat.ne_of_lt (by lia)
  have nCD : C ≠ D := Nat.ne_of_gt (by lia)
  have nXD : X ≠ D := Nat.ne_of_gt (by lia)
  have nLD : L ≠ D := Nat.ne_of_lt hLlt
  have nLC : L ≠ C := Nat.ne_of_lt (by lia)
  have nLX : L ≠ X := Nat.ne_of_lt (by lia)
  have fpC : C ∉ fp := fun q => by have := ltN (hfp _ q); lia
  have fpX : X ∉ fp := fun q => by have := ltN (hfp _ q); lia
  have fpD : D ∉ fp := fun q => by have := ltN (hfp _ q); lia
  have newsLt : ∀ p ∈ news, p.1 < D := fun p hp => oldS _ _ (N p hp).1
  have off₀ : Off4 I C X D news := fun p hp => ⟨off p hp, Nat.ne_of_lt (by have := ltN (newsLt p hp); lia), Nat.ne_of_lt (by have := ltN (newsLt p hp); lia), Nat.ne_of_lt (newsLt p hp)⟩
  have hst₁ : St 0 H3 := W.frame _ _ _ hst fun b _ o e => u1 b o e
  have kX : (compEnvC scope ((x, X) :: cl) C env).kindOf x = some .cell := hxk
  have loop : ∀ s₃ : Shared, s₃ = { s₂ with heap := H3 } →
      codeAny (model prog w) A (.compLoop (.ListComp elt [⟨.Name x px, iter, [], 0⟩] scope pos) 0 (.ref I) (.ref D) (compEnvC scope ((x, X) :: cl) C env)) (RR (.ref D) C) s₃ := by
    rintro s₃ rfl
    refine codeAny_compLoop_tests
      (fun k s' => ∃ h' tk i ys m' nw oX c₀, s' = { s₂ with heap := h', toks := tk } ∧ i ≤ n ∧ k = n + 1 - i ∧ ys.length = i ∧ St i h' ∧ Fr h₀ L h' m ∧ h'.Ns C m' ∧ oX.data = .cell c₀ ∧ News h₀ L h' ((X, oX) :: (D, LCg.lst ys) :: nw) ∧ Off4 I C X D nw ∧ J i ys nw) ?_ (n + 1)
      ⟨H3, _, 0, [], _, news, ({ cls := .type "cell", data := .cell none } : Obj), none, rfl, Nat.zero_le _, rfl, rfl, hst₁, F.keeps u1, nsC, rfl, ?_, off₀, hJ⟩
    · rintro k s' ⟨h', tk, i, ys, m', nw, oX, c₀, rfl, hi, rfl, hyl, hst', F', hn', hoX, N', off', hJ'⟩
      by_cases hlt : i < n
      · refine W.item i _ _ _ hlt hst' fun v h₂ tk₂ hPv hst₂ hk₂ => ?_
        have NX := N' (X, oX) (.head _)
        have cX : h₂.IsCell X c₀ := ⟨oX, hk₂ _ _ (by simpa using Ne.symm nIX) NX.1, hoX⟩
        refine wpAny_assign_Name (wpAny_storeName_cell (c := X) (v₀ := c₀) (by simp [compEnvC, relabel, hkind]) kX (by simp [compEnvC]) cX (fun h₃ hc₃ hs₃ => ?_))
        refine wpAny_tests_nil ?_
        simp only [if_true]
        obtain ⟨oX', heX, hdX⟩ := hc₃
        have hn₃ : h₃.Ns C m' := (hn'.at' fun o e => hk₂ _ o (by simpa using Ne.symm nIC) e).sameBut hs₃ nCX
        obtain ⟨oC, heC, hoC⟩ := LCg.ns_obj hn₃
        have hst₃ : St (i + 1) h₃ := W.frame _ _ _ hst₂ fun b hb o e => hs₃.extBut b o (fun q => fpX (q ▸ hb)) e
        obtain ⟨oI, heI⟩ := hIo _ _ hst₃
        have F₃ : Fr h₀ L h₃ m := (LCg.fr_but F' hk₂ hIL hI₀).change hs₃ (Ne.symm nLX) hX₀
        have N₃ : News h₀ L h₃ ((I, oI) :: (C, oC) :: (X, oX') :: (D, LCg.lst ys) :: nw) := fun p hp => by
          rcases List.mem_cons.mp hp with rfl | hp
          · exact ⟨heI, Ne.symm hIL, hI₀⟩
          · rcases List.mem_cons.mp hp with rfl | hp
            · exact ⟨heC, Ne.symm nLC, hC₀⟩
            · rcases List.mem_cons.mp hp with rfl | hp
              · exact ⟨heX, Ne.symm nLX, hX₀⟩
              · have z := N' p (List.mem_cons_of_mem _ hp)
                have nI : p.1 ≠ I := by
                  rcases List.mem_cons.mp hp with rfl | hp
                  · exact Ne.symm nID
                  · exact (off' p hp).1
                have nX : p.1 ≠ X := by
                  rcases List.mem_cons.mp hp with rfl | hp
                  · exact Ne.symm nXD
                  · exact (off' p hp).2.2.1
                exact ⟨hs₃.extBut _ _ nX (hk₂ _ _ (by simpa using nI) z.1), z.2⟩
        refine wpAny_mono (turn i v oI C oC X oX' D ys nw h₃ _ _ hlt hPv hJ' hdX F₃ N₃ off' ⟨nIC, nIX, nID, nCX, nCD, nXD⟩) (fun y s₄ h₄ => ?_) fun _ _ e => e
        obtain ⟨h₄, tk₄, nw₄, rfl, F₄, N₄, off₄, hJ₄⟩ := h₄
        have zI := (N₄ (I, oI) (.head _)).1
        have zC := (N₄ (C, oC) (.tail _ (.head _))).1
        have zX := N₄ (X, oX') (.tail _ (.tail _ (.head _)))
        have zD := (N₄ (D, LCg.lst ys) (.tail _ (.tail _ (.tail _ (.head _))))).1
        have N₄' : News h₀ L h₄ nw₄ := fun p hp => N₄ p (.tail _ (.tail _ (.tail _ (.tail _ hp))))
        have hst₄ : St (i + 1) h₄ := hSt _ _ _ _ _ _ _ hst₃ hJ₄ heI zI F₄.keep N₄'
        refine append_at (hsz := by show ys.toArray.size ≤ sizeLine; rw [List.size_toArray, hyl]; exact Nat.le_trans hi hsz) zD fun h₅ hs₅ hD₅ => ?_
        refine ⟨n + 1 - (i + 1), by lia, h₅, tk₄, i + 1, ys ++ [y], _, nw₄, oX', _, rfl, hlt, rfl, by rw [List.length_append, List.length_singleton, hyl], W.frame _ _ _ hst₄ fun b hb o e => hs₅.extBut b o (fun q => fpD (q ▸ hb)) e, F₄.change hs₅ (Ne.symm nLD) hD₀,
          (hoC.ns zC).sameBut hs₅ nCD, hdX, fun p hp => ?_, off₄, hJ₄⟩
        rcases List.mem_cons.mp hp with rfl | hp
        · exact ⟨hs₅.extBut _ _ nXD zX.1, zX.2⟩
        · rcases List.mem_cons.mp hp with rfl | hp
          · exact ⟨hD₅.trans (congrArg some (LCg.lst_snoc ys y)), Ne.symm nLD, hD₀⟩
          · exact ⟨hs₅.extBut _ _ (off₄ p hp).2.2.2 (N₄' p hp).1, (N₄' p hp).2⟩
      · obtain rfl : i = n := Nat.le_antisymm hi (Nat.not_lt.mp hlt)
        refine W.done _ _ _ hst' fun h₂ tk₂ hk₂ => ?_
        refine hRR D C h₂ tk₂ _ ys nw (LCg.fr_but F' hk₂ hIL hI₀) (LCg.news_but (fun p hp => N' p (.tail _ hp)) hk₂ fun p hp => ?_) (fun p hp => (off' p hp).2.2.2) (hn'.at' fun o e => hk₂ _ o (by simpa using Ne.symm nIC) e) hC₀ hD₀ (Ne.symm nLC) (Ne.symm nLD) nCD (fun p hp => (off' p hp).2.1) hJ'
        rcases List.mem_cons.mp hp with rfl | hp
        · exact Ne.symm nID
        · exact (off' p hp).1
    · intro p hp
      rcases List.mem_cons.mp hp with rfl | hp
      · exact ⟨g3, Ne.symm nLX, hX₀⟩
      · rcases List.mem_cons.mp hp with rfl | hp
        · exact ⟨u2 _ _ g1, Ne.symm nLD, hD₀⟩
        · exact ⟨u1 _ _ (N p hp).1, (N p hp).2⟩
  exact codeAny_compStart_list (loop _ rfl) (W.self 0 _ _ _ hst₁ (loop _ rfl))
end



end
-- part B2
example : True := by w_top off; trivial
section
noncomputable def CEnd (h₀ : Heap) (L : Addr) (m : PySem.Str → Option Value) (s₁ : Shared) (I : Addr) (oI : Obj) (C : Addr) (oC : Obj) (X : Addr) (oX : Obj) (D : Addr) (oD : Obj) (rest : Value → List (Addr × Obj) → Prop) (y : Value) (s₂ : Shared) : Prop :=
  ∃ h' tk nw', s₂ = { s₁ with heap := h', toks := tk } ∧ Fr h₀ L h' m ∧ News h₀ L h' ((I, oI) :: (C, oC) :: (X, oX) :: (D, oD) :: nw') ∧ Off4 I C X D nw' ∧ rest y nw'
noncomputable def CRest (prog : Program) (w : World) (A : Around) (h₀ : Heap) (L : Addr) (m : PySem.Str → Option Value) (env : Env) (elt : PySem.Expr) (x : PySem.Str) (scope : Scope) (cl : List (PySem.Str × Addr)) (s : Shared) (Src : List (Addr × Obj) → Prop) (items : List Value) (Fin : List Value → List (Addr × Obj) → Prop) : Nat → Nat → List Value → List (Addr × Obj) → Prop
  | 0, _, ys, nw => Fin ys nw
  | k + 1, i, ys, nw => ∀ v I oI C oC X oX D h tk (E' : Value → Shared → Prop), items[i]? = some v → oX.data = .cell (some v) → Fr h₀ L h m → News h₀ L h ((I, oI) :: (C, oC) :: (X, oX) :: (D, LCg.lst ys) :: nw) → Off4 I C X D nw →
      ((@Ne Nat I C) ∧ (@Ne Nat I X) ∧ (@Ne Nat I D) ∧ (@Ne Nat C X) ∧ (@Ne Nat C D) ∧ (@Ne Nat X D)) →
      wpAny (model prog w) A (eval elt (compEnvC scope ((x, X) :: cl) C env)) (CEnd h₀ L m { s with heap := h, toks := tk } I oI C oC X oX D (LCg.lst ys) (fun y nw' => Src nw' ∧ CRest prog w A h₀ L m env elt x scope cl s Src items Fin k (i + 1) (ys ++ [y]) nw')) E' { s with heap := h, toks := tk }
section
variable {prog : Program} {w : World} {A : Around} {E : Value → Shared → Prop} {s : Shared} {h₀ : Heap} {L : Addr} {m : PySem.Str → Option Value} {env : Env}
noncomputable def CFinE (h₀ : Heap) (L : Addr) (m : PySem.Str → Option Value) (s : Shared) (Q : Value → Shared → Prop) (ys : List Value) (nw : List (Addr × Obj)) : Prop :=
  ∀ D h tk, Fr h₀ L h m → News h₀ L h ((D, LCg.lst ys) :: nw) → (∀ p ∈ nw, p.1 ≠ D) → Q (.ref D) { s with heap := h, toks := tk }
noncomputable def CFinA (h₀ : Heap) (L : Addr) (m : PySem.Str → Option Value) (s : Shared) (y : PySem.Str) (Q : Flow → Shared → Prop) (ys : List Value) (nw : List (Addr × Obj)) : Prop :=
  ∀ D h tk, Fr h₀ L h (fun z => if z = y then some (.ref D) else m z) → News h₀ L h ((D, LCg.lst ys) :: nw) → (∀ p ∈ nw, p.1 ≠ D) → Q .next { s with heap := h, toks := tk }
noncomputable abbrev tupO (items : Array Value) (k : Nat) : Obj := { cls := .type "tuple", data := .seq items k }
noncomputable def CSrc (prog : Program) (w : World) (A : Around) (h₀ : Heap) (L : Addr) (m : PySem.Str → Option Value) (env : Env) (elt : PySem.Expr) (x : PySem.Str) (scope : Scope) (cl : List (PySem.Str × Addr)) (o : List Value → Nat → Obj) (Fin : Shared → List Value → List (Addr × Obj) → Prop) (xv : Value) (s₁ : Shared) : Prop :=
  ∃ ax items k news, xv = .ref ax ∧ A.handled = none ∧ Fr h₀ L s₁.heap m ∧ News h₀ L s₁.heap news ∧ (ax, o items k) ∈ news ∧ items.length ≤ 64 ∧
    ∀ s₂ : Shared, (∃ h, s₂ = { s₁ with heap := h }) → CRest prog w A h₀ L m env elt x scope cl s₂ (fun nw => (ax, o items k) ∈ nw) items (Fin s₂) items.length 0 [] news
theorem ListComp_C {elt iter : PySem.Expr} {x : PySem.Str} {px : Pos} {scope : Scope} {cl : List (PySem.Str × Addr)} {pos : Pos} {Q : Value → Shared → Prop} (F₀ : Fr h₀ L s.heap m)
    (hclos : closureFor scope env = pure cl) (hcf : ∀ k, cellsFrom k scope.names cl = (x, k) :: cl) (hpc : ∀ h, pushCells h scope.names = h.push { cls := .type "cell", data := .cell none }) (hkind : scope.kind = .function)
    (hnames : ∀ y ∈ scope.names, y.2 = .local → scope.names.lookup y.1 = some .local) (hxk : (compEnvC scope ((x, 0) :: cl) 0 env).kindOf x = some .cell)
    (h : wpAny (model prog w) A (eval iter env) (CSrc prog w A h₀ L m env elt x scope cl (fun items k => listOf items.toArray k) (fun s₂ => CFinE h₀ L m s₂ Q)) E s)
    (hs : ∀ x, foldedSetIterable iter env x = pure x := by intro _; rfl) :
    wpAny (model prog w) A (eval (.ListComp elt [⟨.Name x px, iter, [], 0⟩] scope pos) env) Q E s := by
  rw [eval_ListComp]
  refine wpAny_comprehension_free (use := none) rfl hs hclos hkind hnames (wpAny_mono h (fun xv s₁ h₁ => ?_) fun _ _ e => e)
  obtain ⟨ax, items, k, news, rfl, hh, F, N, hm, hsz, R⟩ := h₁
  have hl : s₁.heap.IsList ax items.toArray := ⟨_, (N _ hm).1, rfl, k, rfl⟩
  have hlt : ax < s₁.heap.objs.size := Heap.lt_size (N _ hm).1
  refine wpAny_pyIter_list hl ?_
  have up : ∀ b o, s₁.heap.get? b = some o → (s₁.heap.push { cls := .type "list_iterator", data := .fields #[.ref ax, .int 0 0] }).get? b = some o := fun b o e => Heap.get?_push_of_some _ e
  have R0 := R ({ s₁ with heap := s₁.heap.push { cls := .type "list_iterator", data := .fields #[.ref ax, .int 0 0] } }) ⟨_, rfl⟩
  refine block_C (s₂ := { s₁ with heap := s₁.heap.push { cls := .type "list_iterator", data := .fields #[.ref ax, .int 0 0] } }) (fun i ys nw => (ax, listOf items.toArray k) ∈ nw ∧ CRest prog w A h₀ L m env elt x scope cl ({ s₁ with heap := s₁.heap.push { cls := .type "list_iterator", data := .fields #[.ref ax, .int 0 0] } }) (fun nw => (ax, listOf items.toArray k) ∈ nw) items (CFinE h₀ L m ({ s₁ with heap := s₁.heap.push { cls := .type "list_iterator", data := .fields #[.ref ax, .int 0 0] } }) Q) (items.length - i) i ys nw)
    (Walks.list hh s₁.heap.objs.size ax (Nat.ne_of_lt hlt) items.toArray) (by rw [List.size_toArray, PySem.sizeLine_eq]; lia) (fun i h st => by obtain ⟨o, e, _⟩ := st.1; exact ⟨o, e⟩)
    (fun i j ys nw h h' o st hj e e' _ N' => ⟨by obtain ⟨o', q, r⟩ := st.1; rw [e] at q; cases q; exact ⟨o, e', r⟩, ⟨_, (N' _ hj.1).1, rfl, k, rfl⟩⟩) hcf hpc hkind hxk ⟨⟨_, Heap.get?_push_size _ rfl, rfl, rfl⟩, hl.push _⟩ (fun b hb => ?_)
    (F.keeps up) (N.grown up) (Nat.ne_of_lt F.ns.lt) (next_is_new F) (fun p hp => Nat.ne_of_lt (Heap.lt_size (N p hp).1)) ⟨hm, R0⟩ ?_ ?_
  · show b < (s₁.heap.push _).objs.size
    rw [Heap.size_push]
    rcases List.mem_cons.mp hb with rfl | hb
    · exact Nat.lt_succ_self _
    · rw [List.mem_singleton.mp hb]; exact Nat.lt_succ_of_lt hlt
  · rintro i v oI C oC X oX D ys nw h' tk E' hin hP ⟨hm', R'⟩ hX F' N' off' ne'
    have hin' : i < items.length := by simpa using hin
    obtain ⟨j, hj⟩ : ∃ j, items.length - i = j + 1 := ⟨items.length - i - 1, by lia⟩
    rw [hj] at R'
    refine wpAny_mono (R' v _ oI C oC X oX D h' tk E' (by simpa using hP) hX F' N' off' ne') (fun y s₄ h₄ => ?_) fun _ _ e => e
    obtain ⟨h₄, tk₄, nw₄, e, F₄, N₄, off₄, hm₄, R₄⟩ := h₄
    exact ⟨h₄, tk₄, nw₄, e, F₄, N₄, off₄, hm₄, by rw [show items.length - (i + 1) = j by lia]; exact R₄⟩
  · rintro D C h' tk m' ys nw F' N' offD hn hC₀ hD₀ hCL hDL hCD offC ⟨_, R'⟩
    rw [List.size_toArray, Nat.sub_self] at R'
    refine ⟨m', hn, fun h'' hs'' => R' D h'' tk (F'.change hs'' hCL hC₀) (fun p hp => ?_) offD⟩
    refine ⟨hs''.extBut _ _ ?_ (N' p hp).1, (N' p hp).2⟩
    rcases List.mem_cons.mp hp with rfl | hp
    · exact Ne.symm hCD
    · exact offC p hp
theorem Assign_ListComp_C {elt iter : PySem.Expr} {x y : PySem.Str} {px py : Pos} {scope : Scope} {cl : List (PySem.Str × Addr)} {pos spos : Pos} {Q : Flow → Shared → Prop} (F₀ : Fr h₀ L s.heap m) (hLe : env.locals = L)
    (hsw : swapsWith (.ListComp elt [⟨.Name x px, iter, [], 0⟩] scope pos) (some (.Name y py)) spos.line env = pure true)
    (hclos : closureFor scope env = pure cl) (hcf : ∀ k, cellsFrom k scope.names cl = (x, k) :: cl) (hpc : ∀ h, pushCells h scope.names = h.push { cls := .type "cell", data := .cell none }) (hkind : scope.kind = .function)
    (hnames : ∀ z ∈ scope.names, z.2 = .local → scope.names.lookup z.1 = some .local) (hxk : (compEnvC scope ((x, 0) :: cl) 0 env).kindOf x = some .cell)
    (hy : env.kindOf y = some .local) (hp : (env.scope.kind == .class || (env.scope.kind == .module && env.locals != env.globals)) = false)
    (h : wpAny (model prog w) A (eval iter env) (CSrc prog w A h₀ L m env elt x scope cl (fun items k => tupO items.toArray k) (fun s₂ => CFinA h₀ L m s₂ y Q)) E s)
    (hs : ∀ x, foldedSetIterable iter env x = pure x := by intro _; rfl) :
    wpAny (model prog w) A (exec (.Assign [.Name y py] (.ListComp elt [⟨.Name x px, iter, [], 0⟩] scope pos) spos) env) Q E s := by
  subst hLe
  rw [exec_Assign_Name_used _ _ _ _ hsw]
  refine wpAny_bind (wpAny_standAt (wpAny_bind ?_))
  show wpAny _ A (do let _ ← comprehension (.ListComp elt [⟨.Name x px, iter, [], 0⟩] scope pos) scope env _ (newList []) false (eval iter env) (some (assign (.Name y py) env))) _ _ s
  refine wpAny_bind (wpAny_mono (wpAny_comprehension_free (use := some (assign (.Name y py) env)) (Q := fun _ s' => Q .next s') rfl hs hclos hkind hnames
    (wpAny_mono h (fun xv s₁ h₁ => ?_) fun _ _ e => e)) (fun _ s' hq => wpAny_pure (wpAny_pure hq)) fun _ _ e => e)
  obtain ⟨ax, items, k, news, rfl, hh, F, N, hm, hsz, R⟩ := h₁
  have hl : s₁.heap.IsTuple ax items.toArray := ⟨_, (N _ hm).1, rfl, k, rfl⟩
  have hlt : ax < s₁.heap.objs.size := Heap.lt_size (N _ hm).1
  refine wpAny_pyIter_tuple hl ?_
  have up : ∀ b o, s₁.heap.get? b = some o → (s₁.heap.push { cls := .type "tuple_iterator", data := .fields #[.ref ax, .int 0 0] }).get? b = some o := fun b o e => Heap.get?_push_of_some _ e
  have R0 := R ({ s₁ with heap := s₁.heap.push { cls := .type "tuple_iterator", data := .fields #[.ref ax, .int 0 0] } }) ⟨_, rfl⟩
  refine block_C (s₂ := { s₁ with heap := s₁.heap.push { cls := .type "tuple_iterator", data := .fields #[.ref ax, .int 0 0] } }) (fun i ys nw => (ax, tupO items.toArray k) ∈ nw ∧ CRest prog w A h₀ env.locals m env elt x scope cl ({ s₁ with heap := s₁.heap.push { cls := .type "tuple_iterator", data := .fields #[.ref ax, .int 0 0] } }) (fun nw => (ax, tupO items.toArray k) ∈ nw) items (CFinA h₀ env.locals m ({ s₁ with heap := s₁.heap.push { cls := .type "tuple_iterator", data := .fields #[.ref ax, .int 0 0] } }) y Q) (items.length - i) i ys nw)
    (Walks.tuple hh s₁.heap.objs.size ax (Nat.ne_of_lt hlt) items.toArray) (by rw [List.size_toArray, PySem.sizeLine_eq]; lia) (fun i h st => by obtain ⟨o, e, _⟩ := st.1; exact ⟨o, e⟩)
    (fun i j ys nw h h' o st hj e e' _ N' => ⟨by obtain ⟨o', q, r⟩ := st.1; rw [e] at q; cases q; exact ⟨o, e', r⟩, ⟨_, (N' _ hj.1).1, rfl, k, rfl⟩⟩) hcf hpc hkind hxk ⟨⟨_, Heap.get?_push_size _ rfl, rfl, rfl⟩, ⟨_, up _ _ (N _ hm).1, rfl, k, rfl⟩⟩ (fun b hb => ?_)
    (F.keeps up) (N.grown up) (Nat.ne_of_lt F.ns.lt) (next_is_new F) (fun p hp => Nat.ne_of_lt (Heap.lt_size (N p hp).1)) ⟨hm, R0⟩ ?_ ?_
  · show b < (s₁.heap.push _).objs.size
    rw [Heap.size_push]
    rcases List.mem_cons.mp hb with rfl | hb
    · exact Nat.lt_succ_self _
    · rw [List.mem_singleton.mp hb]; exact Nat.lt_succ_of_lt hlt
  · rintro i v oI C oC X oX D ys nw h' tk E' hin hP ⟨hm', R'⟩ hX F' N' off' ne'
    have hin' : i < items.length := by simpa using hin
    obtain ⟨j, hj⟩ : ∃ j, items.length - i = j + 1 := ⟨items.length - i - 1, by lia⟩
    rw [hj] at R'
    refine wpAny_mono (R' v _ oI C oC X oX D h' tk E' (by simpa using hP) hX F' N' off' ne') (fun y s₄ h₄ => ?_) fun _ _ e => e
    obtain ⟨h₄, tk₄, nw₄, e, F₄, N₄, off₄, hm₄, R₄⟩ := h₄
    exact ⟨h₄, tk₄, nw₄, e, F₄, N₄, off₄, hm₄, by rw [show items.length - (i + 1) = j by lia]; exact R₄⟩
  · rintro D C h' tk m' ys nw F' N' offD hn hC₀ hD₀ hCL hDL hCD offC ⟨_, R'⟩
    rw [List.size_toArray, Nat.sub_self] at R'
    show wpAny _ A (assign (.Name y py) env (.ref D)) _ _ _
    refine wpAny_assign_Name (wpAny_storeName_local hy F'.ns (fun h₂ hn₂ hs₂ => ?_) hp)
    have hL₀ : h₀.get? env.locals = none := Heap.get?_none_of_le F'.above
    have F₂ : Fr h₀ env.locals h₂ (fun z => if z = y then some (.ref D) else m z) := ⟨hn₂, fun b o e => hs₂.extBut b o (fun q => by rw [q, hL₀] at e; cases e) (F'.keep b o e), F'.above⟩
    refine ⟨m', hn.sameBut hs₂ hCL, fun h'' hs'' => R' D h'' _ (F₂.change hs'' hCL hC₀) (fun p hp => ?_) offD⟩
    have z : h₂.get? p.1 = some p.2 := hs₂.extBut _ _ (N' p hp).2.1 (N' p hp).1
    refine ⟨hs''.extBut _ _ ?_ z, (N' p hp).2⟩
    rcases List.mem_cons.mp hp with rfl | hp
    · exact Ne.symm hCD
    · exact offC p hp
theorem csrc_intro {elt : PySem.Expr} {x : PySem.Str} {scope : Scope} {cl : List (PySem.Str × Addr)} {o : List Value → Nat → Obj} {Fin : Shared → List Value → List (Addr × Obj) → Prop} {ax : Addr} {items : List Value} {k : Nat} {news : List (Addr × Obj)} {s₁ : Shared} (hh : A.handled = none) (F : Fr h₀ L s₁.heap m) (N : News h₀ L s₁.heap news) (hm : (ax, o items k) ∈ news) (hl : items.length ≤ 64)
    (h : ∀ g, CRest prog w A h₀ L m env elt x scope cl { s₁ with heap := g } (fun nw => (ax, o items k) ∈ nw) items (Fin { s₁ with heap := g }) items.length 0 [] news) : CSrc prog w A h₀ L m env elt x scope cl o Fin (.ref ax) s₁ :=
  ⟨ax, items, k, news, rfl, hh, F, N, hm, hl, fun _ ⟨g, e⟩ => e ▸ h g⟩
theorem crest_zero {elt : PySem.Expr} {x : PySem.Str} {scope : Scope} {cl : List (PySem.Str × Addr)} {Src : List (Addr × Obj) → Prop} {items : List Value} {Fin : List Value → List (Addr × Obj) → Prop} {i : Nat} {ys : List Value} {nw : List (Addr × Obj)} (h : Fin ys nw) :
    CRest prog w A h₀ L m env elt x scope cl s Src items Fin 0 i ys nw := h
theorem crest_succ {elt : PySem.Expr} {x : PySem.Str} {scope : Scope} {cl : List (PySem.Str × Addr)} {Src : List (Addr × Obj) → Prop} {items : List Value} {Fin : List Value → List (Addr × Obj) → Prop} {k i : Nat} {ys : List Value} {nw : List (Addr × Obj)} {v : Value} (hv : items[i]? = some v)
    (h : ∀ I oI C oC X oX D h tk (E' : Value → Shared → Prop), oX.data = .cell (some v) → Fr h₀ L h m → News h₀ L h ((I, oI) :: (C, oC) :: (X, oX) :: (D, LCg.lst ys) :: nw) → Off4 I C X D nw →
      ((@Ne Nat I C) ∧ (@Ne Nat I X) ∧ (@Ne Nat I D) ∧ (@Ne Nat C X) ∧ (@Ne Nat C D) ∧ (@Ne Nat X D)) →
      wpAny (model prog w) A (eval elt (compEnvC scope ((x, X) :: cl) C env)) (CEnd h₀ L m { s with heap := h, toks := tk } I oI C oC X oX D (LCg.lst ys) (fun y nw' => Src nw' ∧ CRest prog w A h₀ L m env elt x scope cl s Src items Fin k (i + 1) (ys ++ [y]) nw')) E' { s with heap := h, toks := tk }) :
    CRest prog w A h₀ L m env elt x scope cl s Src items Fin (k + 1) i ys nw := fun v' I oI C oC X oX D h' tk E' hv' hX F' N' off' ne' => by
  rw [hv] at hv'
  cases hv'
  exact h I oI C oC X oX D h' tk E' hX F' N' off' ne'
theorem cend_new {I C X D D' : Addr} {oI oC oX oD o' : Obj} {nw all : List (Addr × Obj)} {s₁ : Shared} {h' : Heap} {tk : Nat} {y : Value} {rest : Value → List (Addr × Obj) → Prop} (F : Fr h₀ L h' m) (N : News h₀ L h' all) (hD : (D', o') ∈ all) (sub : ∀ p ∈ (I, oI) :: (C, oC) :: (X, oX) :: (D, oD) :: nw, p ∈ all) (off : Off4 I C X D nw)
    (ne : ∀ p ∈ (I, oI) :: (C, oC) :: (X, oX) :: (D, oD) :: nw, p.1 ≠ D') (r : rest y ((D', o') :: nw)) : CEnd h₀ L m s₁ I oI C oC X oX D oD rest y { s₁ with heap := h', toks := tk } := by
  refine ⟨h', tk, (D', o') :: nw, rfl, F, fun p hp => ?_, fun p hp => ?_, r⟩
  · rcases List.mem_cons.mp hp with rfl | hp
    · exact N _ (sub _ (.head _))
    · rcases List.mem_cons.mp hp with rfl | hp
      · exact N _ (sub _ (.tail _ (.head _)))
      · rcases List.mem_cons.mp hp with rfl | hp
        · exact N _ (sub _ (.tail _ (.tail _ (.head _))))
        · rcases List.mem_cons.mp hp with rfl | hp
          · exact N _ (sub _ (.tail _ (.tail _ (.tail _ (.head _)))))
          · rcases List.mem_cons.mp hp with rfl | hp
            · exact N _ hD
            · exact N _ (sub _ (.tail _ (.tail _ (.tail _ (.tail _ hp)))))
  · rcases List.mem_cons.mp hp with rfl | hp
    · exact ⟨Ne.symm (ne _ (.head _)), Ne.symm (ne _ (.tail _ (.head _))), Ne.symm (ne _ (.tail _ (.tail _ (.head _)))), Ne.symm (ne _ (.tail _ (.tail _ (.tail _ (.head _)))))⟩
    · exact off p hp
theorem off1_mem {D : Addr} : ∀ {l : List (Addr × Obj)}, LCg.Off1 D l → ∀ p ∈ l, p.1 ≠ D
  | [], _, _, h => nomatch h
  | _ :: _, x, p, h => by
    rcases List.mem_cons.mp h with rfl | h
    · exact x.1
    · exact off1_mem x.2 p h
theorem compend0 {I C D : Addr} {oI oC oD : Obj} {S : List (Addr × Obj) → Prop} {news : List (Addr × Obj)} {s₁ : Shared} {h' : Heap} {tk : Nat} {y : Value} {rest : Value → List (Addr × Obj) → Prop} (F : Fr h₀ L h' m) (N : News h₀ L h' ((I, oI) :: (C, oC) :: (D, oD) :: news)) (off : LCg.Off3 I C D news) (hS : S news) (r : rest y news) :
    LCg.CompEnd h₀ L m s₁ I oI C oC D oD S rest y { s₁ with heap := h', toks := tk } := LCg.CompEnd.intro F N news (fun _ hp => hp) off hS r
theorem cend_new2 {I C X D D' : Addr} {oI oC oX oD o' : Obj} {nw : List (Addr × Obj)} {a b : Addr × Obj} {s₁ : Shared} {h' : Heap} {tk : Nat} {y : Value} {rest : Value → List (Addr × Obj) → Prop} (F : Fr h₀ L h' m) (N : News h₀ L h' ((D', o') :: a :: b :: (I, oI) :: (C, oC) :: (X, oX) :: (D, oD) :: nw)) (off : Off4 I C X D nw)
    (lt : AllLt D' (a :: b :: (I, oI) :: (C, oC) :: (X, oX) :: (D, oD) :: nw)) (r : rest y ((D', o') :: nw)) : CEnd h₀ L m s₁ I oI C oC X oX D oD rest y { s₁ with heap := h', toks := tk } :=
  cend_new F N (.head _) (fun p hp => .tail _ (.tail _ (.tail _ hp))) off (fun p hp => Nat.ne_of_lt (kst_ltOf lt p (.tail _ (.tail _ hp)))) r
end



end
-- part P5
example : True := by w_top off; trivial
section
noncomputable def menG (c : Int) (l : List Int) (k : Int) : List Int := l ++ (if k ≠ 0 ∧ k / 8 = c then [k % 8] else [])
theorem menG_yes {c k : Int} {l : List Int} (h1 : k ≠ 0) (h2 : k.fdiv 8 = c) : menG c l k = l ++ [k.fmod 8] := by
  rw [fdiv8] at h2
  unfold menG
  rw [if_pos ⟨h1, h2⟩, fmod8]
theorem menG_no {c k : Int} {l : List Int} (h : ¬ (k ≠ 0 ∧ k.fdiv 8 = c)) : menG c l k = l := by
  rw [fdiv8] at h
  unfold menG
  rw [if_neg h, List.append_nil]
theorem nand1 {k : Int} {q : Prop} (h : k = 0) : ¬ (k ≠ 0 ∧ q) := fun x => x.1 h
theorem nand2 {p q : Prop} (h : ¬ q) : ¬ (p ∧ q) := fun x => h x.2
theorem menG_grows (c : Int) : KPfGrows (menG c) := fun l k => by
  unfold menG
  split <;> simp

noncomputable def menL (bs : List Int) (c : Int) : List Int := (bs.filter fun x => decide (x ≠ 0 ∧ x / 8 = c)).map fun x => x % 8
theorem foldl_menG (c : Int) : ∀ (bs l : List Int), bs.foldl (menG c) l = l ++ menL bs c
  | [], l => by simp [menL]
  | x :: bs, l => by
    rw [List.foldl_cons, foldl_menG c bs]
    unfold menG menL
    by_cases h : x ≠ 0 ∧ x / 8 = c
    · rw [if_pos h, List.filter_cons_of_pos (by simpa using h), List.map_cons, List.append_assoc]; rfl
    · rw [if_neg h, List.filter_cons_of_neg (by simpa using h), List.append_nil]
theorem menL_ent {f r : Nat} {bs : List Int} (hb : Bd f r bs) (c : Int) : ∀ x ∈ menL bs c, 1 ≤ x ∧ x ≤ 6 := by
  intro x hx
  obtain ⟨y, hy, rfl⟩ := List.mem_map.mp hx
  obtain ⟨hy1, hy2⟩ := List.mem_filter.mp hy
  have h1 := hb.ent y hy1
  have h2 := of_decide_eq_true hy2
  lia
theorem menL_len : ∀ bs : List Int, (menL bs 0).length + (menL bs 1).length ≤ bs.length
  | [] => by simp [menL]
  | x :: bs => by
    have ih := menL_len bs
    simp only [menL, List.length_map] at ih ⊢
    rw [List.length_cons]
    by_cases h0 : x ≠ 0 ∧ x / 8 = 0
    · rw [List.filter_cons_of_pos (by simpa using h0), List.filter_cons_of_neg (by simp; lia), List.length_cons]
      lia
    · by_cases h1 : x ≠ 0 ∧ x / 8 = 1
      · rw [List.filter_cons_of_neg (by simpa using h0), List.filter_cons_of_pos (by simpa using h1), List.length_cons]
        lia
      · rw [List.filter_cons_of_neg (by simpa using h0), List.filter_cons_of_neg (by simpa using h1)]
        lia
theorem pc_KS (bs : List Int) (k c : Nat) : pc (bw (kindB bs k) &&& bw (sideB bs c)) = (menL bs (c : Int)).count (k : Int) := by
  rw [bw_and, pc_bw]
  induction bs with
  | nil => rfl
  | cons x bs ih =>
    simp only [kindB, sideB, menL, List.map_cons, List.zipWith_cons_cons] at ih ⊢
    rw [List.count_cons, ih]
    by_cases h : x ≠ 0 ∧ x / 8 = (c : Int)
    · rw [List.filter_cons_of_pos (by simpa using h), List.map_cons, List.count_cons]
      by_cases h2 : x % 8 = (k : Int)
      · simp [h, h2]
      · simp [h, h2]
    · rw [List.filter_cons_of_neg (by simpa using h)]
      have e : decide (x ≠ 0 ∧ x / 8 = (c : Int)) = false := decide_eq_false h
      rw [e, Bool.and_false]
      simp
theorem pc_S (bs : List Int) (c : Nat) : pc (bw (sideB bs c)) = (menL bs (c : Int)).length := by
  rw [pc_bw]
  induction bs with
  | nil => rfl
  | cons x bs ih =>
    simp only [sideB, menL, List.map_cons] at ih ⊢
    rw [List.count_cons, ih]
    by_cases h : x ≠ 0 ∧ x / 8 = (c : Int)
    · rw [List.filter_cons_of_pos (by simpa using h), List.map_cons, List.length_cons]
      simp [h]
    · rw [List.filter_cons_of_neg (by simpa using h)]
      have e : decide (x ≠ 0 ∧ x / 8 = (c : Int)) = false := decide_eq_false h
      rw [e]
      simp
noncomputable def pv (k : Int) : Int := if k = 1 then 126 else if k = 2 then 781 else if k = 3 then 825 else if k = 4 then 1276 else if k = 5 then 2538 else 0
noncomputable def hvG (l : List Int) (k : Int) : List Int := l ++ (if 1 < k then [pv k] else [])
theorem hvG_grows : KPfGrows hvG := fun l k => by
  unfold hvG
  split <;> simp
theorem hvG_yes {k : Int} {l : List Int} {v : Int} (h : 1 < k) (hv : pv k = v) : hvG l k = l ++ [v] := by
  unfold hvG
  rw [if_pos h, hv]
theorem hvG_no {k : Int} {l : List Int} (h : ¬ 1 < k) : hvG l k = l := by
  unfold hvG
  rw [if_neg h, List.append_nil]
theorem pv_sum : ∀ M : List Int, (∀ x ∈ M, 1 ≤ x ∧ x ≤ 6) → (M.map pv).sum = 126 * (M.count 1 : Int) + 781 * (M.count 2 : Int) + 825 * (M.count 3 : Int) + 1276 * (M.count 4 : Int) + 2538 * (M.count 5 : Int)
  | [], _ => rfl
  | x :: M, h => by
    have ih := pv_sum M fun y hy => h y (List.mem_cons_of_mem _ hy)
    have hx := h x (List.mem_cons_self ..)
    rw [List.map_cons, List.sum_cons, ih]
    simp only [List.count_cons]
    have hc : x = 1 ∨ x = 2 ∨ x = 3 ∨ x = 4 ∨ x = 5 ∨ x = 6 := by lia
    rcases hc with rfl | rfl | rfl | rfl | rfl | rfl <;> simp [pv] <;> lia
theorem hv_fold : ∀ (M l : List Int), M.foldl hvG l = l ++ (M.filter fun k => decide (1 < k)).map pv
  | [], l => by simp
  | x :: M, l => by
    rw [List.foldl_cons, hv_fold M]
    unfold hvG
    by_cases h : 1 < x
    · rw [if_pos h, List.filter_cons_of_pos (by simpa using h), List.map_cons, List.append_assoc]; rfl
    · rw [if_neg h, List.filter_cons_of_neg (by simpa using h), List.append_nil]
theorem hv_sum : ∀ M : List Int, (∀ x ∈ M, 1 ≤ x ∧ x ≤ 6) → (M.foldl hvG []).sum = 781 * (M.count 2 : Int) + 825 * (M.count 3 : Int) + 1276 * (M.count 4 : Int) + 2538 * (M.count 5 : Int)
  | [], _ => rfl
  | x :: M, h => by
    have ih := hv_sum M fun y hy => h y (List.mem_cons_of_mem _ hy)
    have hx := h x (List.mem_cons_self ..)
    rw [hv_fold, List.nil_append] at ih ⊢
    simp only [List.count_cons]
    have hc : x = 1 ∨ x = 2 ∨ x = 3 ∨ x = 4 ∨ x = 5 ∨ x = 6 := by lia
    rcases hc with rfl | rfl | rfl | rfl | rfl | rfl <;> simp [pv, ih] <;> lia



end
-- part X0
example : True := by w_top off; trivial
section
/-- the body of the def at f from its k-th statement on -/
noncomputable def CutAt (w : World) (f : Addr) (k : Nat) (P : List Stmt → PySem.Str → Scope → Value → Prop) : Prop :=
  ∀ (name qual : PySem.Str) (params : Arguments) (body : List Stmt) (scope : Scope) (dV kV doc pm cdv ct oc : Value) (an od : Option Addr) (osl : Array (Option Value)),
    (hd.heap_1 w.params).lookup f = some ⟨oc, od, .func (fnOf name qual params body scope dV kV doc pm an cdv ct), osl⟩ → P (body.drop k) qual scope cdv
theorem CutAt.of {w : World} {f : Addr} {k : Nat} {P : List Stmt → PySem.Str → Scope → Value → Prop} {name qual : PySem.Str} {params : Arguments} {body : List Stmt} {scope : Scope} {dV kV doc pm cdv ct oc : Value} {an od : Option Addr} {osl : Array (Option Value)}
    (ho : (hd.heap_1 w.params).lookup f = some ⟨oc, od, .func (fnOf name qual params body scope dV kV doc pm an cdv ct), osl⟩) (h : P (body.drop k) qual scope cdv) : CutAt w f k P := by
  intro name' qual' params' body' scope' dV' kV' doc' pm' cdv' ct' oc' an' od' osl' h'
  rw [ho] at h'
  cases h'
  exact h
theorem CutAt.elim {w : World} {f : Addr} {k : Nat} {P : List Stmt → PySem.Str → Scope → Value → Prop} {G : Prop} (c : CutAt w f k P) {name qual : PySem.Str} {params : Arguments} {body : List Stmt} {scope : Scope} {dV kV doc pm cdv ct oc : Value} {an od : Option Addr} {osl : Array (Option Value)}
    (ho : (hd.heap_1 w.params).lookup f = some ⟨oc, od, .func (fnOf name qual params body scope dV kV doc pm an cdv ct), osl⟩) (h : P (body.drop k) qual scope cdv → G) : G := h (c _ _ _ _ _ _ _ _ _ _ _ _ _ _ _ ho)
theorem CutAt.use {w : World} {f : Addr} {k : Nat} {P : List Stmt → PySem.Str → Scope → Value → Prop} (c : CutAt w f k P) {name qual : PySem.Str} {params : Arguments} {body : List Stmt} {scope : Scope} {dV kV doc pm cdv ct oc : Value} {an od : Option Addr} {osl : Array (Option Value)}
    (ho : (hd.heap_1 w.params).lookup f = some ⟨oc, od, .func (fnOf name qual params body scope dV kV doc pm an cdv ct), osl⟩) : P (body.drop k) qual scope cdv := c _ _ _ _ _ _ _ _ _ _ _ _ _ _ _ ho



end
-- part C1
example : True := by w_top off; trivial
section


theorem count_bits_spec (w : World) (b : Nat) (t : Tok) : Spec w 21 1 (fun _ => True) [.int (b : Int) t] (fun v tl => tl = [] ∧ ∃ t', v = .int (pc b) t') := by
  refine' spec_of [(Str.ofString "b", .int (b : Int) t)] ?h1 ?h2 ?h3 ?h4 ?h5 ?h6 ?h7 ?h8 ?h9 ?_
  case h1 => k_is
  case h2 => k_is
  case h3 => lia
  case h4 => rfl
  case h5 => exact locs rfl
  case h6 => rfl
  case h7 => rfl
  case h8 => rfl
  case h9 => decide
  intro mean mg mb dp un gd outer A₀ base g L h₁ tk s B F X N T hpre hd hu
  change Fr g L h₁ (fun y => List.lookup y [(Str.ofString "b", Value.int (b : Int) t)]) at F
  refine letAE ?_
  intro A9 e9
  have sm9 := stMark s
  repeat' (first | (k_unfold; (try dsimp only)) | ((with_reducible show wpAny _ _ (exec (PySem.Stmt.While (PySem.Expr.Name _ _) _ _ _) _) _ _ _); first | with_reducible (refine Stop.of ?_)) | ((with_reducible show wpAny _ _ (eval (PySem.Expr.BinOp _ _ _ _) _) _ _ _); first | with_reducible (k_fold)) | ((with_reducible show wpAny _ _ (execs (_ :: _) _) _ _ _); first | with_reducible (first | k_fold | (rename StMark _ => mk9z; refine tok_gen mk9z ?_; intro k9z; (with_reducible refine wpAny_execs_cons ?_); try dsimp only))) | ((with_reducible show PySem.W.KswEnd _ _ _ _ _ _ _ _ _ _ _ _); first | with_reducible (refine Stop.of ?_)) | ((with_reducible show BodyQ _ _ _ _ _ _); first | with_reducible (refine Stop.of ?_)) | walk1 | dsimp only)
  refine Stop.go ?_
  rename Fr _ _ _ _ => F'
  refine' ksw_while (σ := Nat × Tok × Nat × Tok) (fun _ => []) (fun c => [(Str.ofString "b", .int (c.1 : Int) c.2.1), (Str.ofString "count", .int (c.2.2.1 : Int) c.2.2.2)]) (fun _ => True) [] (fun c => c.2.2.1 + pc c.1 = pc b) (fun c => c.1) (b, t, 0, ?tc) F' ?N trivial ?hk ?hp ?turn
  case N => assumption
  case hk => kst_all
  case hp => simp
  case turn =>
    rintro ⟨x, tx, c, tc⟩ u h tk' _ hP F2 N2
    dsimp only [kstB] at hP F2
    repeat' (first | (k_unfold; (try dsimp only)) | ((with_reducible show wpAny _ _ (exec (PySem.Stmt.While (PySem.Expr.Name _ _) _ _ _) _) _ _ _); first | with_reducible (refine Stop.of ?_)) | ((with_reducible show wpAny _ _ (eval (PySem.Expr.BinOp _ _ _ _) _) _ _ _); first | with_reducible (k_fold)) | ((with_reducible show wpAny _ _ (execs (_ :: _) _) _ _ _); first | with_reducible (first | k_fold | (rename StMark _ => mk9z; refine tok_gen mk9z ?_; intro k9z; (with_reducible refine wpAny_execs_cons ?_); try dsimp only))) | ((with_reducible show PySem.W.KswEnd _ _ _ _ _ _ _ _ _ _ _ _); first | with_reducible (refine Stop.of ?_)) | ((with_reducible show BodyQ _ _ _ _ _ _); first | with_reducible (refine Stop.of ?_)) | walk1 | dsimp only)
    · refine Stop.go ?_
      have hx : 0 < x := by lia
      have hb : Builtin.bitAnd (x : Int) ((x : Int) - 1) = ((x &&& (x - 1) : Nat) : Int) := bitAnd_pred x hx
      have hs := pc_step x hx
      refine' ksw_end (x &&& (x - 1), ?t1, c + 1, ?t2) (by assumption) (by assumption) (fun p hp => hp) trivial ?hk (by ksw_same) ?hP (and_pred_lt x hx)
      case hk => rw [← hb]; kst_all
      case hP => show c + 1 + pc (x &&& (x - 1)) = pc b; lia
    · refine Stop.go ?_
      refine BodyQ.nil F2 ⟨tc, ?_⟩
      have hx : x = 0 := by lia
      rw [hx, pc_zero] at hP
      rw [← hP]; rfl

theorem count_bits_at (w : World) (x : Int) (b : Nat) (t : Tok) (h : x = (b : Int)) : Spec w 21 1 (fun _ => True) [.int x t] (fun v tl => tl = [] ∧ ∃ t', v = .int (pc b) t') := by
  subst h
  exact count_bits_spec w b t



end
-- part C2
example : True := by w_top off; trivial
section

theorem count_of_spec (w : World) (ap : Addr) (f r : Nat) (K S : Nat → Nat) (sd : Nat) (c k : Nat) (t1 t2 : Tok) (hc : c < 2) (hk : k < 7) :
    Spec w 36 2 (fun h => PosAt h ap f r K S sd) [.ref ap, .int (c : Int) t1, .int (k : Int) t2] (fun v tl => tl = [] ∧ ∃ t', v = .int (pc (K k &&& S c) : Int) t') := by
  refine' spec_of [(Str.ofString "pos", .ref ap), (Str.ofString "side", .int (c : Int) t1), (Str.ofString "kind", .int (k : Int) t2)] ?h1 ?h2 ?h3 ?h4 ?h5 ?h6 ?h7 ?h8 ?h9 ?_
  case h1 => k_is
  case h2 => k_is
  case h3 => omega
  case h4 => rfl
  case h5 => exact locs rfl
  case h6 => rfl
  case h7 => rfl
  case h8 => rfl
  case h9 => decide
  intro mean mg mb dp un gd outer A₀ base g L h₁ tk s B F X N T hpre hd hu
  obtain ⟨P, hm, ok⟩ := hpre
  change Fr g L h₁ (fun y => List.lookup y [(Str.ofString "kind", Value.int (k : Int) t2), (Str.ofString "side", Value.int (c : Int) t1), (Str.ofString "pos", Value.ref ap)]) at F
  refine letAE ?_
  intro A9 e9
  have sm9 := stMark s
  have m1 := pm1 hm
  have m2 := pm2 hm
  have m3 := pm5 hm
  have m4 := pm6 hm
  have g1 := ok.kinds
  have g2 := ok.sides
  have i1 := ok.kv
  have i2 := ok.sv
  have l1 := ok.lk
  have l2 := ok.ls
  have e1 := ok.k k hk
  have e2 := ok.s c hc
  have e3 : Builtin.bitAnd (P.KI.getD (k : Int).toNat 0) (P.SI.getD (c : Int).toNat 0) = ((K k &&& S c : Nat):Int) := by
    rw [Int.toNat_natCast, Int.toNat_natCast, e1, e2, bitAnd_nat]
  repeat' (first | (k_unfold; (try dsimp only)) | ((with_reducible show wpAny _ _ (call (Value.ref _) _) _ _ _); first | with_reducible ((k_here; (with_reducible show wpAny _ _ (call (Value.ref 21) _) _ _ _); refine' Spec.useI (count_bits_at _ _ _ _ ?z_hx) ?z_B ?z_F ?z_X ?z_N ?z_T ?z_hk ?z_hd ?z_hu trivial ?_; (((case z_F => k_asm); (case z_N => k_asm); (case z_B => k_asm); (case z_X => k_asm); (case z_T => k_asm); (case z_hk => rfl); (case z_hd => first | exact roomD (by with_reducible assumption) rfl | omega); (case z_hu => first | exact roomU (by with_reducible assumption) rfl | omega))); (case z_hx => assumption); (intro t9z h9z tk9z F9z N9z)))) | ((with_reducible show wpAny _ _ (eval (PySem.Expr.Call _ _ _ _) _) _ _ _); first | with_reducible ((k_here; (with_reducible show wpAny _ _ (eval (PySem.Expr.Call (PySem.Expr.Name _ _) (PySem.Expr.Name _ _ :: _) [] _) _) _ _ _); k_dflt (rename Fr _ _ _ _ => F8z; refine' callV F8z ?z_X ?z_f ?z_k ?z_a rfl ?_; (case z_X => k_asm); (case z_f => walk_at "mine vv"); (case z_k => k_is); (case z_a => walk_at "mine av")))) | with_reducible (k_fold)) | ((with_reducible show wpAny _ _ (eval (PySem.Expr.Subscript _ _ _) _) _ _ _); first | with_reducible (k_fold)) | ((with_reducible show wpAny _ _ (eval (PySem.Expr.BinOp _ _ _ _) _) _ _ _); first | with_reducible (k_fold)) | ((with_reducible show wpAny _ _ (execs (_ :: _) _) _ _ _); first | with_reducible (first | k_fold | (rename StMark _ => mk9z; refine tok_gen mk9z ?_; intro k9z; (with_reducible refine wpAny_execs_cons ?_); try dsimp only))) | ((with_reducible show BodyQ _ _ _ _ _ _); first | with_reducible (refine Stop.of ?_)) | walk1 | dsimp only)
  refine Stop.go ?_
  exact BodyQ.nil (by assumption) ⟨_, rfl⟩

theorem count_of_at (w : World) (ap : Addr) (f r : Nat) (K S : Nat → Nat) (sd : Nat) (c k : Nat) (x y : Int) (t1 t2 : Tok) (hx : x = (c : Int)) (hy : y = (k : Int)) (hc : c < 2) (hk : k < 7) :
    Spec w 36 2 (fun h => PosAt h ap f r K S sd) [.ref ap, .int x t1, .int y t2] (fun v tl => tl = [] ∧ ∃ t', v = .int (pc (K k &&& S c) : Int) t') := by
  subst hx
  subst hy
  exact count_of_spec w ap f r K S sd c k t1 t2 hc hk



end
-- part C3
example : True := by w_top off; trivial
section
structure RowAt (h : Heap) (a : Addr) (c : Nat → Nat) : Prop where
  at_ : ∃ (cv : List Value) (CI : List Int) (n : Nat), h.get? a = some (listOf cv.toArray n) ∧ IntsAre cv CI ∧ CI.length = 6 ∧ (∀ i < 6, CI.getD i 0 = ((c i : Nat) : Int))
theorem RowAt.keeps {h h' : Heap} {a : Addr} {c : Nat → Nat} (x : RowAt h a c) (hs : ∀ b o, h.get? b = some o → h'.get? b = some o) : RowAt h' a c := by
  obtain ⟨cv, CI, n, hm, r⟩ := x.at_
  exact ⟨cv, CI, n, hs _ _ hm, r⟩

noncomputable def worth (first : Nat) (c : Nat → Nat) : Int := (if first ≤ 1 then 126 * (c 1 : Int) else 0) + 781 * (c 2 : Int) + 825 * (c 3 : Int) + 1276 * (c 4 : Int) + 2538 * (c 5 : Int)

theorem sub_norm {prog : Program} {w : World} {A : Around} {E : Value → Shared → Prop} {s : Shared} {value slice : PySem.Expr} {a : Addr} {k : Int} (k' : Int) {u : Tok} {Q : Value → Shared → Prop} (e : k = k') (h : wpAny (model prog w) A (subscriptTail value slice (.ref a) (.int k' u)) Q E s) :
    wpAny (model prog w) A (subscriptTail value slice (.ref a) (.int k u)) Q E s := by subst e; exact h

end
section
theorem worth_of_spec (w : World) (ar : Addr) (c : Nat → Nat) (first : Int) (fn : Nat) (t1 : Tok) (hf : first = (fn : Int)) (hfn : fn = 1 ∨ fn = 2) :
    Spec w 50 1 (fun h => RowAt h ar c) [.ref ar, .int first t1] (fun v tl => tl = [] ∧ ∃ t', v = .int (worth fn c) t') := by
  subst hf
  refine' spec_of [(Str.ofString "row", .ref ar), (Str.ofString "first", .int (fn : Int) t1)] ?h1 ?h2 ?h3 ?h4 ?h5 ?h6 ?h7 ?h8 ?h9 ?_
  case h1 => k_is
  case h2 => k_is
  case h3 => omega
  case h4 => rfl
  case h5 => exact locs rfl
  case h6 => rfl
  case h7 => rfl
  case h8 => rfl
  case h9 => decide
  intro mean mg mb dp un gd outer A₀ base g L h₁ tk s B F X N T hpre hd hu
  obtain ⟨cv, CI, n, hm, hi, hl, he⟩ := hpre.at_
  have m3 := isList_of hm
  change Fr g L h₁ (fun y => List.lookup y [(Str.ofString "first", Value.int (fn : Int) t1), (Str.ofString "row", Value.ref ar)]) at F
  refine letAE ?_
  intro A9 e9
  have sm9 := stMark s
  have mk9 := kstMark
  rcases hfn with rfl | rfl
  · repeat' (first | (k_unfold; (try dsimp only)) | ((with_reducible show wpAny _ _ (eval (PySem.Expr.Call _ _ _ _) _) _ _ _); first | with_reducible ((k_here; (with_reducible show wpAny _ _ (eval (PySem.Expr.Call (PySem.Expr.Name _ _) (PySem.Expr.Name _ _ :: _) [] _) _) _ _ _); k_dflt (rename Fr _ _ _ _ => F8z; refine' callV F8z ?z_X ?z_f ?z_k ?z_a rfl ?_; (case z_X => k_asm); (case z_f => walk_at "mine vv"); (case z_k => k_is); (case z_a => walk_at "mine av")))) | with_reducible (k_fold)) | ((with_reducible show wpAny _ _ (eval (PySem.Expr.Subscript _ _ _) _) _ _ _); first | with_reducible (k_fold)) | ((with_reducible show wpAny _ _ (eval (PySem.Expr.BinOp _ _ _ _) _) _ _ _); first | with_reducible (k_fold)) | ((with_reducible show wpAny _ _ (execs (_ :: _) _) _ _ _); first | with_reducible (first | k_fold | (rename StMark _ => mk9z; refine tok_gen mk9z ?_; intro k9z; (with_reducible refine wpAny_execs_cons ?_); try dsimp only))) | ((with_reducible show wpAny _ _ (subscriptTail _ _ _ _) _ _ _); first | with_reducible (((with_reducible show wpAny _ _ (subscriptTail _ (PySem.Expr.Constant (PySem.Const.int 0) _ _) (Value.ref _) (Value.int 0 _)) _ _ _); k_dflt (refine' topTup_K ?z_F ?z_X ?z_l ?z_a ?z_b ?z_d ?z_e ?_; (case z_F => k_asm); (case z_X => k_asm); (case z_l => k_is); (case z_a => decide); (case z_b => decide); (case z_d => rfl); (case z_e => rfl); k_whole))) | with_reducible (((with_reducible show wpAny _ _ (subscriptTail _ _ (Value.ref 29) (Value.int _ _)) _ _ _); (first | refine sub_norm 1 rfl ?_ | refine sub_norm 2 rfl ?_ | refine sub_norm 3 rfl ?_ | refine sub_norm 4 rfl ?_ | refine sub_norm 5 rfl ?_); k_dflt (refine' topList_K ?z_F ?z_X ?z_l ?z_a ?z_b ?z_d ?_; (case z_F => k_asm); (case z_X => k_asm); (case z_l => k_is); (case z_a => decide); (case z_b => decide); (case z_d => rfl); k_whole)))) | ((with_reducible show BodyQ _ _ _ _ _ _); first | with_reducible (refine Stop.of ?_)) | ((with_reducible show PySem.W.UnrEnd _ _ _ _ _ _ _); first | ((k_here; refine' unrEnd_rem ?z_F ?z_N ?z_R ?_; (case z_F => k_asm); (case z_N => k_asm); (case z_R => tb_start); dsimp only))) | walk1 | dsimp only)
    refine Stop.go ?_
    refine' BodyQ.nil ?F ⟨_, ?_⟩
    case F => k_asm
    show Value.int _ _ = Value.int _ _
    refine congrArg (fun z => Value.int z _) ?_
    show 0 + CI.getD 1 0 * 126 + CI.getD 2 0 * 781 + CI.getD 3 0 * 825 + CI.getD 4 0 * 1276 + CI.getD 5 0 * 2538 = worth 1 c
    rw [he 1 (by omega), he 2 (by omega), he 3 (by omega), he 4 (by omega), he 5 (by omega)]
    simp only [worth]
    rw [if_pos (by omega)]
    omega
  · repeat' (first | (k_unfold; (try dsimp only)) | ((with_reducible show wpAny _ _ (eval (PySem.Expr.Call _ _ _ _) _) _ _ _); first | with_reducible ((k_here; (with_reducible show wpAny _ _ (eval (PySem.Expr.Call (PySem.Expr.Name _ _) (PySem.Expr.Name _ _ :: _) [] _) _) _ _ _); k_dflt (rename Fr _ _ _ _ => F8z; refine' callV F8z ?z_X ?z_f ?z_k ?z_a rfl ?_; (case z_X => k_asm); (case z_f => walk_at "mine vv"); (case z_k => k_is); (case z_a => walk_at "mine av")))) | with_reducible (k_fold)) | ((with_reducible show wpAny _ _ (eval (PySem.Expr.Subscript _ _ _) _) _ _ _); first | with_reducible (k_fold)) | ((with_reducible show wpAny _ _ (eval (PySem.Expr.BinOp _ _ _ _) _) _ _ _); first | with_reducible (k_fold)) | ((with_reducible show wpAny _ _ (execs (_ :: _) _) _ _ _); first | with_reducible (first | k_fold | (rename StMark _ => mk9z; refine tok_gen mk9z ?_; intro k9z; (with_reducible refine wpAny_execs_cons ?_); try dsimp only))) | ((with_reducible show wpAny _ _ (subscriptTail _ _ _ _) _ _ _); first | with_reducible (((with_reducible show wpAny _ _ (subscriptTail _ (PySem.Expr.Constant (PySem.Const.int 0) _ _) (Value.ref _) (Value.int 0 _)) _ _ _); k_dflt (refine' topTup_K ?z_F ?z_X ?z_l ?z_a ?z_b ?z_d ?z_e ?_; (case z_F => k_asm); (case z_X => k_asm); (case z_l => k_is); (case z_a => decide); (case z_b => decide); (case z_d => rfl); (case z_e => rfl); k_whole))) | with_reducible (((with_reducible show wpAny _ _ (subscriptTail _ _ (Value.ref 29) (Value.int _ _)) _ _ _); (first | refine sub_norm 1 rfl ?_ | refine sub_norm 2 rfl ?_ | refine sub_norm 3 rfl ?_ | refine sub_norm 4 rfl ?_ | refine sub_norm 5 rfl ?_); k_dflt (refine' topList_K ?z_F ?z_X ?z_l ?z_a ?z_b ?z_d ?_; (case z_F => k_asm); (case z_X => k_asm); (case z_l => k_is); (case z_a => decide); (case z_b => decide); (case z_d => rfl); k_whole)))) | ((with_reducible show BodyQ _ _ _ _ _ _); first | with_reducible (refine Stop.of ?_)) | ((with_reducible show PySem.W.UnrEnd _ _ _ _ _ _ _); first | ((k_here; refine' unrEnd_rem ?z_F ?z_N ?z_R ?_; (case z_F => k_asm); (case z_N => k_asm); (case z_R => tb_start); dsimp only))) | walk1 | dsimp only)
    refine Stop.go ?_
    refine' BodyQ.nil ?F ⟨_, ?_⟩
    case F => k_asm
    show Value.int _ _ = Value.int _ _
    refine congrArg (fun z => Value.int z _) ?_
    show 0 + CI.getD 2 0 * 781 + CI.getD 3 0 * 825 + CI.getD 4 0 * 1276 + CI.getD 5 0 * 2538 = worth 2 c
    rw [he 2 (by omega), he 3 (by omega), he 4 (by omega), he 5 (by omega)]
    simp only [worth]
    rw [if_neg (by omega)]
    omega



end
-- part C4
example : True := by w_top off; trivial
section
theorem ifexp_const {M : Model} {A : Around} {E : Value → Shared → Prop} {s : Shared} {env : Env} {c : Prop} [Decidable c] {x y : Int} {k k' : Nat} {p p' : Pos} {Q : Value → Shared → Prop}
    (h : Q (.int (if c then x else y) s.toks) { s with toks := s.toks + 1 }) : if c then wpAny M A (eval (.Constant (.int x) k p) env) Q E s else wpAny M A (eval (.Constant (.int y) k' p') env) Q E s := by
  by_cases hc : c
  · rw [if_pos hc] at h ⊢
    exact wpAny_Constant_int h
  · rw [if_neg hc] at h ⊢
    exact wpAny_Constant_int h
noncomputable def rowc (K S : Nat → Nat) (side : Nat) : Nat → Nat := fun k => if k = 0 then (if 1 < pc (K 3 &&& S side) then 1 else 0) else pc (K k &&& S side)

end
section

noncomputable abbrev Counts (K S : Nat → Nat) (v : Value) (tl : List (Addr × Obj)) : Prop :=
  ∃ a r0 r1 v0 v1 n n0 n1, v = .ref a ∧ tl = [(a, listOf #[.ref r0, .ref r1] n), (r1, listOf (List.toArray v1) n1), (r0, listOf (List.toArray v0) n0)] ∧ IntsAre v0 ((List.range 6).map fun k => ((rowc K S 0 k : Nat) : Int)) ∧ IntsAre v1 ((List.range 6).map fun k => ((rowc K S 1 k : Nat) : Int))

theorem counts_end {K S : Nat → Nat} {g : Heap} {L : Addr} {s : Shared} {h' : Heap} {tk' : Nat} {m' : PySem.Str → Option Value} {news : List (Addr × Obj)} {a r0 r1 : Addr} {v0 v1 : List Value} {n n0 n1 : Nat} (F : Fr g L h' m') (N : News g L h' news)
    (h1 : (a, listOf #[.ref r0, .ref r1] n) ∈ news) (h2 : (r0, listOf (List.toArray v0) n0) ∈ news) (h3 : (r1, listOf (List.toArray v1) n1) ∈ news)
    (i0 : IntsAre v0 ((List.range 6).map fun k => ((rowc K S 0 k : Nat) : Int))) (i1 : IntsAre v1 ((List.range 6).map fun k => ((rowc K S 1 k : Nat) : Int))) :
    BodyQ (Counts K S) g L s (.ret (.ref a)) { s with heap := h', toks := tk' } := by
  refine BodyQ.mk _ F N ?_ ⟨a, r0, r1, v0, v1, n, n0, n1, rfl, rfl, i0, i1⟩
  intro p hp
  simp only [List.mem_cons, List.not_mem_nil, or_false] at hp
  rcases hp with rfl | rfl | rfl
  · exact h1
  · exact h3
  · exact h2
theorem rowc_ints {K S : Nat → Nat} {c : Nat} {b t1 t2 t3 t4 t5 t6 : _} (h : b = if decide ((1 : Int) < (pc (K 3 &&& S c) : Nat)) = true then (1 : Int) else 0) :
    IntsAre [.int b t1, .int ((pc (K 1 &&& S c) : Nat) : Int) t2, .int ((pc (K 2 &&& S c) : Nat) : Int) t3, .int ((pc (K 3 &&& S c) : Nat) : Int) t4, .int ((pc (K 4 &&& S c) : Nat) : Int) t5, .int ((pc (K 5 &&& S c) : Nat) : Int) t6] ((List.range 6).map fun k => ((rowc K S c k : Nat) : Int)) := by
  have e : b = ((rowc K S c 0 : Nat) : Int) := by
    rw [h]
    simp only [rowc]
    by_cases h1 : 1 < pc (K 3 &&& S c)
    · rw [if_pos (decide_eq_true (by omega))]; simp [h1]
    · rw [if_neg (by simp; omega)]; simp [h1]
  rw [e]
  exact .cons _ _ (.cons _ _ (.cons _ _ (.cons _ _ (.cons _ _ (.cons _ _ .nil)))))

theorem upd_mem {d : Addr} {o o' : Obj} {l l' : List (Addr × Obj)} (h : Upd d o o' l l') : (d, o) ∈ l := by
  obtain ⟨pre, post, rfl, _⟩ := h.split
  simp
noncomputable def inner43 : List Stmt → List Stmt
  | .For _ _ (_ :: .For _ _ b _ _ :: _) _ _ :: _ => b
  | _ => []
local macro_rules | `(tactic| k_upd) => `(tactic| (rename ∀ _, Upd _ _ _ _ _ => hU9; exact hU9 _))
/-- a turn of the inner loop: row.append(count_of(pos, side, kind)) -/
theorem turn43 {w : World} {ap : Addr} {f r : Nat} {K S : Nat → Nat} {sd : Nat} {g : Heap} (X : (hd.heap_1 w.params).In g) (hpre : PosAt g ap f r K S sd) : CutAt w 43 1 fun rest qual scope cdv => ∀ {mean : ExcName → Option Value} {mg mb : PySem.Str → Option Value} {dp un : Nat} {gd : Option (List Code)} {outer : List Env} {A₀ : Around} {base h : Heap} {L : Addr} {tk : Nat} {s : Shared} {m : PySem.Str → Option Value} {ar : Addr} {vs : List Value} {n : Nat} {news : List (Addr × Obj)} {nf : Obj → List (Addr × Obj)} {x y : Int} (c k : Nat) {t1 t2 : Tok} {Q : Flow → Shared → Prop} {E : Value → Shared → Prop},
    Below A₀ base outer g → Fr g L h m → News g L h news → Top topView (looseW topView [PySem.Str.ofString "PIECE_VALUES"]) mean mg mb g → dp + 3 < recursionLimit → un + 8 * 3 < cLine →
    m (PySem.Str.ofString "row") = some (.ref ar) → m (PySem.Str.ofString "pos") = some (.ref ap) → m (PySem.Str.ofString "side") = some (.int x t1) → m (PySem.Str.ofString "kind") = some (.int y t2) → x = (c : Int) → y = (k : Int) → c < 2 → k < 7 → (∀ o, Upd ar (listOf vs.toArray n) o news (nf o)) → vs.length ≤ 10 →
    (∀ (t : Tok) h' tk', Fr g L h' m → News g L h' (nf (listOf (vs ++ [Value.int (pc (K k &&& S c) : Int) t]).toArray (n + 1))) → Q .next { s with heap := h', toks := tk' }) →
    wpAny (model PySem.Challenge.rw_nt0419_01.row.prog w) (ktrTop (dp + 1) (un + 3) gd qual scope L 43 cdv [] outer) (execs (inner43 rest) (envOf qual scope L 43 cdv)) Q E { s with heap := h, toks := tk } := by
  refine' CutAt.of ?ho ?_
  case ho => k_is
  dsimp only [List.drop, inner43]
  intro mean mg mb dp un gd outer A₀ base h L tk s m ar vs n news nf x y c k t1 t2 Q E B F N T hd hu hr hp hs hk hx hy hc hk7 hU hl hQ
  subst hx
  subst hy
  have hm9 := upd_mem (hU (instObj 0 0))
  refine letAE ?_
  intro A9 e9
  have sm9 := stMark s
  repeat' (first | (k_unfold; (try dsimp only)) | ((with_reducible show wpAny _ _ (subscriptTail (PySem.Expr.Name _ _) (PySem.Expr.Name _ _) (Value.ref _) (Value.int _ _)) _ _ _); first | with_reducible (((k_here; (with_reducible show wpAny _ _ (subscriptTail _ _ (Value.ref _) (Value.int _ _)) _ _ _); k_dflt (refine' made_item ?z_N ?z_m ?z_a ?z_x ?_ ?z_s; (case z_N => k_asm); (case z_m => k_mem); (case z_a => rfl); (case z_x => rfl); (case z_s => with_unfolding_all rfl); k_whole))))) | ((with_reducible show wpAny _ _ (setItem (Value.ref _) (Value.int _ _) _) _ _ _); first | with_reducible ((k_here; (with_reducible show wpAny _ _ (setItem (Value.ref _) (Value.int _ _) _) _ _ _); k_dflt (refine' made_set ?z_F ?z_N ?z_a ?z_e ?z_U ?_; (case z_F => k_asm); (case z_N => k_asm); (case z_e => rfl); (case z_U => k_upd); (case z_a => rfl); k_whole); intro h'z F'z N'z; (try simp only [Int.toNat_zero, List.set_cons_zero] at N'z); (try k_sweep)))) | ((with_reducible show wpAny _ _ (call (Value.ref _) _) _ _ _); first | with_reducible ((k_here; (with_reducible show wpAny _ _ (call (Value.ref 36) _) _ _ _); k_dflt (refine' Spec.useI (count_of_spec _ _ _ _ _ _ _ _ _ _ _ ?z_c3 ?z_c4) ?z_B ?z_F ?z_X ?z_N ?z_T ?z_hk ?z_hd ?z_hu ?z_hp ?_; (case z_c3 => assumption); (case z_c4 => assumption); (((case z_F => k_asm); (case z_N => k_asm); (case z_B => k_asm); (case z_X => k_asm); (case z_T => k_asm); (case z_hk => rfl); (case z_hd => first | exact roomD (by with_reducible assumption) rfl | omega); (case z_hu => first | exact roomU (by with_reducible assumption) rfl | omega))); (case z_hp => exact PosAt.keeps (by assumption) (Fr.keep (by assumption)))); (intro t9z h9z tk9z F9z N9z))) | with_reducible ((k_here; (with_reducible show wpAny _ _ (call (Value.ref 21) _) _ _ _); refine' Spec.useI (count_bits_at _ _ _ _ ?z_hx) ?z_B ?z_F ?z_X ?z_N ?z_T ?z_hk ?z_hd ?z_hu trivial ?_; (((case z_F => k_asm); (case z_N => k_asm); (case z_B => k_asm); (case z_X => k_asm); (case z_T => k_asm); (case z_hk => rfl); (case z_hd => first | exact roomD (by with_reducible assumption) rfl | omega); (case z_hu => first | exact roomU (by with_reducible assumption) rfl | omega))); (case z_hx => assumption); (intro t9z h9z tk9z F9z N9z)))) | ((with_reducible show wpAny _ _ (eval (PySem.Expr.Name _ _) _) _ _ _); first | with_reducible ((k_here; k_dflt (refine' nameX_L ?z_F ?z_v ?_ rfl rfl ?z_d; (case z_F => k_asm); (case z_v => with_reducible assumption); (case z_d => decide))))) | ((with_reducible show wpAny _ _ (eval (PySem.Expr.Call _ _ _ _) _) _ _ _); first | with_reducible ((k_here; (with_reducible show wpAny _ _ (eval (PySem.Expr.Call (PySem.Expr.Name _ _) (PySem.Expr.Name _ _ :: _) [] _) _) _ _ _); k_dflt (rename Fr _ _ _ _ => F8z; refine' callV F8z ?z_X ?z_f ?z_k ?z_a rfl ?_; (case z_X => k_asm); (case z_f => walk_at "mine vv"); (case z_k => k_is); (case z_a => walk_at "mine av")))) | with_reducible (k_fold)) | ((with_reducible show wpAny _ _ (isTrue (PySem.Expr.Compare _ _ _ _) _ _) _ _ _); first | with_reducible (k_fold)) | ((with_reducible show wpAny _ _ (call (Value.builtin "list.append") _) _ _ _); first | with_reducible ((k_here; (with_reducible show wpAny _ _ (call (Value.builtin _) [Value.ref _, _]) _ _ _); k_dflt (refine' append_K ?z_k1 ?z_k2 ?z_k3 ?_ ?z_z; (case z_k1 => k_asm); (case z_k2 => k_asm); (case z_k3 => k_upd); (case z_z => size_fits); k_whole); intro h'z F'z N'z; (try simp only [List.push_toArray, List.cons_append, List.nil_append] at N'z); (try k_sweep)))) | ((with_reducible show wpAny _ _ (eval (PySem.Expr.Subscript _ _ _) _) _ _ _); first | with_reducible (k_fold)) | ((with_reducible show wpAny _ _ (execs (_ :: _) _) _ _ _); first | with_reducible (first | k_fold | (rename StMark _ => mk9z; refine tok_gen mk9z ?_; intro k9z; (with_reducible refine wpAny_execs_cons ?_); try dsimp only))) | ((with_reducible show ite _ _ _); first | with_reducible (refine ifexp_const ?_)) | ((with_reducible show BodyQ _ _ _ _ _ _); first | with_reducible (refine Stop.of ?_)) | ((with_reducible show PySem.W.UnrEndW _ _ _ _ _ _); first | ((k_here; refine' unrEndW_rem ?z_F ?z_N ?z_R ?_; (case z_F => k_asm); (case z_N => k_asm); (case z_R => tb_start); refine ⟨by k_subL, ?_⟩))) | walk1 | dsimp only)
  exact hQ _ _ _ (by assumption) (by with_reducible assumption)
local macro_rules | `(tactic| k_ne) => `(tactic| walk_at "mine ne")
local macro_rules | `(tactic| k_lt $h) => `(tactic| replace $h := allLt_of $h)
theorem counts_of_spec (w : World) (ap : Addr) (f r : Nat) (K S : Nat → Nat) (sd : Nat) :
    Spec w 43 3 (fun h => PosAt h ap f r K S sd) [.ref ap] (Counts K S) := by
  refine' spec_of [(Str.ofString "pos", .ref ap)] ?h1 ?h2 ?h3 ?h4 ?h5 ?h6 ?h7 ?h8 ?h9 ?_
  case h1 => k_is
  case h2 => k_is
  case h3 => omega
  case h4 => rfl
  case h5 => exact locs rfl
  case h6 => rfl
  case h7 => rfl
  case h8 => rfl
  case h9 => decide
  intro mean mg mb dp un gd outer A₀ base g L h₁ tk s B F X N T hpre hd hu
  change Fr g L h₁ (fun y => List.lookup y [(Str.ofString "pos", Value.ref ap)]) at F
  refine letAE ?_
  intro A9 e9
  have sm9 := stMark s
  repeat' (first | (k_unfold; (try dsimp only)) | ((with_reducible show wpAny _ _ (subscriptTail (PySem.Expr.Name _ _) (PySem.Expr.Name _ _) (Value.ref _) (Value.int _ _)) _ _ _); first | with_reducible (((k_here; (with_reducible show wpAny _ _ (subscriptTail _ _ (Value.ref _) (Value.int _ _)) _ _ _); k_dflt (refine' made_item ?z_N ?z_m ?z_a ?z_x ?_ ?z_s; (case z_N => k_asm); (case z_m => k_mem); (case z_a => rfl); (case z_x => rfl); (case z_s => with_unfolding_all rfl); k_whole))))) | ((with_reducible show wpAny _ _ (setItem (Value.ref _) (Value.int _ _) _) _ _ _); first | with_reducible ((k_here; (with_reducible show wpAny _ _ (setItem (Value.ref _) (Value.int _ _) _) _ _ _); k_dflt (refine' made_set ?z_F ?z_N ?z_a ?z_e ?z_U ?_; (case z_F => k_asm); (case z_N => k_asm); (case z_e => rfl); (case z_U => k_upd); (case z_a => rfl); k_whole); intro h'z F'z N'z; (try simp only [Int.toNat_zero, List.set_cons_zero] at N'z); (try k_sweep)))) | ((with_reducible show wpAny _ _ (execs (_ :: _) _) _ _ _); first | with_reducible (((with_reducible show wpAny _ _ (execs [PySem.Stmt.Expr (PySem.Expr.Call (PySem.Expr.Attribute _ _ _) [PySem.Expr.Call _ _ _ _] _ _) _] _) _ _ _); rename Frag.In _ _ => X9z; rename PosAt _ _ _ _ _ _ _ => P9z; refine' CutAt.elim (turn43 X9z P9z) ?z_ho ?_; (case z_ho => k_is); intro c9z; k_dflt (refine' c9z _ _ ?z_B ?z_F ?z_N ?z_T ?z_hd ?z_hu ?z_a1 ?z_a2 ?z_a3 ?z_a4 ?z_a5 ?z_a6 ?z_c2 ?z_k7 ?z_U ?z_l ?_; (case z_B => k_asm); (case z_F => k_asm); (case z_N => k_asm); (case z_T => k_asm); (case z_hd => k_asm); (case z_hu => k_asm); (case z_a1 => rfl); (case z_a2 => rfl); (case z_a3 => rfl); (case z_a4 => rfl); (case z_a5 => exact rfl); (case z_a6 => exact rfl); (case z_c2 => decide); (case z_k7 => decide); (case z_U => (intro o9z; k_upd)); (case z_l => exact Nat.le_of_ble_eq_true rfl)); intro t9z h9z tk9z F9z N9z; (dsimp only [List.cons_append, List.nil_append] at N9z); clear c9z)) | with_reducible (first | k_fold | (rename StMark _ => mk9z; refine tok_gen mk9z ?_; intro k9z; (with_reducible refine wpAny_execs_cons ?_); try dsimp only))) | ((with_reducible show wpAny _ _ (call (Value.ref _) _) _ _ _); first | with_reducible ((k_here; (with_reducible show wpAny _ _ (call (Value.ref 36) _) _ _ _); k_dflt (refine' Spec.useI (count_of_spec _ _ _ _ _ _ _ _ _ _ _ ?z_c3 ?z_c4) ?z_B ?z_F ?z_X ?z_N ?z_T ?z_hk ?z_hd ?z_hu ?z_hp ?_; (case z_c3 => assumption); (case z_c4 => assumption); (((case z_F => k_asm); (case z_N => k_asm); (case z_B => k_asm); (case z_X => k_asm); (case z_T => k_asm); (case z_hk => rfl); (case z_hd => first | exact roomD (by with_reducible assumption) rfl | omega); (case z_hu => first | exact roomU (by with_reducible assumption) rfl | omega))); (case z_hp => exact PosAt.keeps (by assumption) (Fr.keep (by assumption)))); (intro t9z h9z tk9z F9z N9z))) | with_reducible ((k_here; (with_reducible show wpAny _ _ (call (Value.ref 21) _) _ _ _); refine' Spec.useI (count_bits_at _ _ _ _ ?z_hx) ?z_B ?z_F ?z_X ?z_N ?z_T ?z_hk ?z_hd ?z_hu trivial ?_; (((case z_F => k_asm); (case z_N => k_asm); (case z_B => k_asm); (case z_X => k_asm); (case z_T => k_asm); (case z_hk => rfl); (case z_hd => first | exact roomD (by with_reducible assumption) rfl | omega); (case z_hu => first | exact roomU (by with_reducible assumption) rfl | omega))); (case z_hx => assumption); (intro t9z h9z tk9z F9z N9z)))) | ((with_reducible show wpAny _ _ (eval (PySem.Expr.Name _ _) _) _ _ _); first | with_reducible ((k_here; k_dflt (refine' nameX_L ?z_F ?z_v ?_ rfl rfl ?z_d; (case z_F => k_asm); (case z_v => with_reducible assumption); (case z_d => decide))))) | ((with_reducible show wpAny _ _ (eval (PySem.Expr.Call _ _ _ _) _) _ _ _); first | with_reducible ((k_here; (with_reducible show wpAny _ _ (eval (PySem.Expr.Call (PySem.Expr.Name _ _) (PySem.Expr.Name _ _ :: _) [] _) _) _ _ _); k_dflt (rename Fr _ _ _ _ => F8z; refine' callV F8z ?z_X ?z_f ?z_k ?z_a rfl ?_; (case z_X => k_asm); (case z_f => walk_at "mine vv"); (case z_k => k_is); (case z_a => walk_at "mine av")))) | with_reducible (k_fold)) | ((with_reducible show wpAny _ _ (isTrue (PySem.Expr.Compare _ _ _ _) _ _) _ _ _); first | with_reducible (k_fold)) | ((with_reducible show wpAny _ _ (call (Value.builtin "list.append") _) _ _ _); first | with_reducible ((k_here; (with_reducible show wpAny _ _ (call (Value.builtin _) [Value.ref _, _]) _ _ _); k_dflt (refine' append_K ?z_k1 ?z_k2 ?z_k3 ?_ ?z_z; (case z_k1 => k_asm); (case z_k2 => k_asm); (case z_k3 => k_upd); (case z_z => size_fits); k_whole); intro h'z F'z N'z; (try simp only [List.push_toArray, List.cons_append, List.nil_append] at N'z); (try k_sweep)))) | ((with_reducible show wpAny _ _ (eval (PySem.Expr.Subscript _ _ _) _) _ _ _); first | with_reducible (k_fold)) | ((with_reducible show ite _ _ _); first | with_reducible (refine ifexp_const ?_)) | ((with_reducible show BodyQ _ _ _ _ _ _); first | with_reducible (refine Stop.of ?_)) | ((with_reducible show PySem.W.UnrEndW _ _ _ _ _ _); first | ((k_here; refine' unrEndW_rem ?z_F ?z_N ?z_R ?_; (case z_F => k_asm); (case z_N => k_asm); (case z_R => tb_start); refine ⟨by k_subL, ?_⟩))) | walk1 | dsimp only)
  ((refine Stop.go ?_; (repeat (first | k_unfold | dsimp only))))
  rename Fr _ _ _ _ => F9
  rename News _ _ _ _ => N9
  refine' counts_end F9 N9 ?m1 ?m2 ?m3 ?i0 ?i1
  case m1 => k_mem
  case m2 => k_mem
  case m3 => k_mem
  case i0 => exact rowc_ints rfl
  case i1 => exact rowc_ints rfl



end
-- part C5
example : True := by w_top off; trivial
section
theorem RowAt.of {h₀ h : Heap} {L a : Addr} {news : List (Addr × Obj)} {vs : List Value} {n : Nat} {c : Nat → Nat} (N : News h₀ L h news) (hm : (a, listOf vs.toArray n) ∈ news) (i : IntsAre vs ((List.range 6).map fun k => ((c k : Nat) : Int))) : RowAt h a c := by
  refine ⟨vs, _, n, (N _ hm).1, i, by simp, fun k hk => ?_⟩
  simp [List.getD, hk]

end
section

theorem material_value_spec (w : World) (ap : Addr) (f r : Nat) (K S : Nat → Nat) (sd : Nat) (hsd : sd = 0 ∨ sd = 1) :
    Spec w 57 4 (fun h => PosAt h ap f r K S sd) [.ref ap] (fun v tl => tl = [] ∧ ∃ t, v = .int (worth 1 (rowc K S sd) - worth 1 (rowc K S (1 - sd))) t) := by
  refine' spec_of [(Str.ofString "pos", .ref ap)] ?h1 ?h2 ?h3 ?h4 ?h5 ?h6 ?h7 ?h8 ?h9 ?_
  case h1 => k_is
  case h2 => k_is
  case h3 => omega
  case h4 => rfl
  case h5 => exact locs rfl
  case h6 => rfl
  case h7 => rfl
  case h8 => rfl
  case h9 => decide
  intro mean mg mb dp un gd outer A₀ base g L h₁ tk s B F X N T hpre hd hu
  change Fr g L h₁ (fun y => List.lookup y [(Str.ofString "pos", Value.ref ap)]) at F
  refine letAE ?_
  intro A9 e9
  have sm9 := stMark s
  obtain ⟨P, hm, ok⟩ := id hpre
  have m1 := pm1 hm
  have m2 := pm2 hm
  have m3 := pm3 hm
  have m4 := pm4 hm
  have m5 := pm5 hm
  have m6 := pm6 hm
  have g0 := ok.geo
  have g1 := ok.kinds
  have g2 := ok.sides
  have i1 := ok.kv
  have i2 := ok.sv
  have l1 := ok.lk
  have l2 := ok.ls
  obtain ⟨t3, g3⟩ := ok.side
  obtain ⟨t4, g4⟩ := ok.size
  obtain ⟨t5, g5⟩ := ok.files
  obtain ⟨hf1, hf2⟩ := ok.hf
  obtain ⟨hr1, hr2⟩ := ok.hr
  clear hm
  rcases hsd with rfl | rfl
  · repeat' (first | (k_unfold; (try dsimp only)) | ((with_reducible show wpAny _ _ (subscriptTail (PySem.Expr.Name _ _) (PySem.Expr.BinOp _ _ _ _) (Value.ref _) (Value.int _ _)) _ _ _); first | with_reducible (((k_here; (with_reducible show wpAny _ _ (subscriptTail _ _ (Value.ref _) (Value.int _ _)) _ _ _); k_dflt (refine' made_item ?z_N ?z_m ?z_a ?z_x ?_ ?z_s; (case z_N => k_asm); (case z_m => k_mem); (case z_a => rfl); (case z_x => rfl); (case z_s => with_unfolding_all rfl); k_whole))))) | ((with_reducible show wpAny _ _ (call (Value.ref _) _) _ _ _); first | with_reducible ((k_here; (with_reducible show wpAny _ _ (call (Value.ref 50) _) _ _ _); k_dflt (refine' Spec.useI (worth_of_spec _ _ _ _ _ _ ?z_c1 ?z_c2) ?z_B ?z_F ?z_X ?z_N ?z_T ?z_hk ?z_hd ?z_hu ?z_hp ?_; (case z_c1 => first | exact (rfl : _ = ((1 : Nat) : Int)) | exact (rfl : _ = ((2 : Nat) : Int))); (case z_c2 => decide); (((case z_F => k_asm); (case z_N => k_asm); (case z_B => k_asm); (case z_X => k_asm); (case z_T => k_asm); (case z_hk => rfl); (case z_hd => first | exact roomD (by with_reducible assumption) rfl | omega); (case z_hu => first | exact roomU (by with_reducible assumption) rfl | omega))); (case z_hp => exact RowAt.of (by k_asm) (by k_mem) (by assumption))); (intro t9z h9z tk9z F9z N9z))) | with_reducible ((k_here; (with_reducible show wpAny _ _ (call (Value.ref 43) _) _ _ _); k_dflt (refine' Spec.use (counts_of_spec _ _ _ _ _ _ _) ?z_B ?z_F ?z_X ?z_N ?z_T ?z_hk ?z_hd ?z_hu ?z_hp ?_; (((case z_F => k_asm); (case z_N => k_asm); (case z_B => k_asm); (case z_X => k_asm); (case z_T => k_asm); (case z_hk => rfl); (case z_hd => first | exact roomD (by with_reducible assumption) rfl | omega); (case z_hu => first | exact roomU (by with_reducible assumption) rfl | omega))); (case z_hp => exact PosAt.keeps (by assumption) (Fr.keep (by assumption)))); intro v9z tl9z h9z tk9z F9z N9z D9z o9z; clear D9z; k_dflt (obtain ⟨a8z, r0z, r1z, v0z, v1z, n8z, n0z, n1z, e8z, e9z, i0z, i1z⟩ := o9z); subst e8z; subst e9z; dsimp only [List.cons_append, List.nil_append] at N9z))) | ((with_reducible show wpAny _ _ (eval (PySem.Expr.Call _ _ _ _) _) _ _ _); first | with_reducible ((k_here; (with_reducible show wpAny _ _ (eval (PySem.Expr.Call (PySem.Expr.Name _ _) (PySem.Expr.Name _ _ :: _) [] _) _) _ _ _); k_dflt (rename Fr _ _ _ _ => F8z; refine' callV F8z ?z_X ?z_f ?z_k ?z_a rfl ?_; (case z_X => k_asm); (case z_f => walk_at "mine vv"); (case z_k => k_is); (case z_a => walk_at "mine av")))) | with_reducible (k_fold)) | ((with_reducible show wpAny _ _ (eval (PySem.Expr.Subscript _ _ _) _) _ _ _); first | with_reducible (k_fold)) | ((with_reducible show wpAny _ _ (eval (PySem.Expr.BinOp _ _ _ _) _) _ _ _); first | with_reducible (k_fold)) | ((with_reducible show wpAny _ _ (execs (_ :: _) _) _ _ _); first | with_reducible (first | k_fold | (rename StMark _ => mk9z; refine tok_gen mk9z ?_; intro k9z; (with_reducible refine wpAny_execs_cons ?_); try dsimp only))) | ((with_reducible show BodyQ _ _ _ _ _ _); first | with_reducible (refine Stop.of ?_)) | ((with_reducible show wpAny _ _ (subscriptTail _ _ _ _) _ _ _); first | with_reducible (((k_here; (with_reducible show wpAny _ _ (subscriptTail _ _ (Value.ref _) (Value.int _ _)) _ _ _); k_dflt (refine' made_item ?z_N ?z_m ?z_a ?z_x ?_ ?z_s; (case z_N => k_asm); (case z_m => k_mem); (case z_a => rfl); (case z_x => rfl); (case z_s => with_unfolding_all rfl); k_whole))))) | walk1 | dsimp only)
    ((refine Stop.go ?_; (repeat (first | k_unfold | dsimp only))))
    exact BodyQ.int (by assumption) rfl
  · repeat' (first | (k_unfold; (try dsimp only)) | ((with_reducible show wpAny _ _ (subscriptTail (PySem.Expr.Name _ _) (PySem.Expr.BinOp _ _ _ _) (Value.ref _) (Value.int _ _)) _ _ _); first | with_reducible (((k_here; (with_reducible show wpAny _ _ (subscriptTail _ _ (Value.ref _) (Value.int _ _)) _ _ _); k_dflt (refine' made_item ?z_N ?z_m ?z_a ?z_x ?_ ?z_s; (case z_N => k_asm); (case z_m => k_mem); (case z_a => rfl); (case z_x => rfl); (case z_s => with_unfolding_all rfl); k_whole))))) | ((with_reducible show wpAny _ _ (call (Value.ref _) _) _ _ _); first | with_reducible ((k_here; (with_reducible show wpAny _ _ (call (Value.ref 50) _) _ _ _); k_dflt (refine' Spec.useI (worth_of_spec _ _ _ _ _ _ ?z_c1 ?z_c2) ?z_B ?z_F ?z_X ?z_N ?z_T ?z_hk ?z_hd ?z_hu ?z_hp ?_; (case z_c1 => first | exact (rfl : _ = ((1 : Nat) : Int)) | exact (rfl : _ = ((2 : Nat) : Int))); (case z_c2 => decide); (((case z_F => k_asm); (case z_N => k_asm); (case z_B => k_asm); (case z_X => k_asm); (case z_T => k_asm); (case z_hk => rfl); (case z_hd => first | exact roomD (by with_reducible assumption) rfl | omega); (case z_hu => first | exact roomU (by with_reducible assumption) rfl | omega))); (case z_hp => exact RowAt.of (by k_asm) (by k_mem) (by assumption))); (intro t9z h9z tk9z F9z N9z))) | with_reducible ((k_here; (with_reducible show wpAny _ _ (call (Value.ref 43) _) _ _ _); k_dflt (refine' Spec.use (counts_of_spec _ _ _ _ _ _ _) ?z_B ?z_F ?z_X ?z_N ?z_T ?z_hk ?z_hd ?z_hu ?z_hp ?_; (((case z_F => k_asm); (case z_N => k_asm); (case z_B => k_asm); (case z_X => k_asm); (case z_T => k_asm); (case z_hk => rfl); (case z_hd => first | exact roomD (by with_reducible assumption) rfl | omega); (case z_hu => first | exact roomU (by with_reducible assumption) rfl | omega))); (case z_hp => exact PosAt.keeps (by assumption) (Fr.keep (by assumption)))); intro v9z tl9z h9z tk9z F9z N9z D9z o9z; clear D9z; k_dflt (obtain ⟨a8z, r0z, r1z, v0z, v1z, n8z, n0z, n1z, e8z, e9z, i0z, i1z⟩ := o9z); subst e8z; subst e9z; dsimp only [List.cons_append, List.nil_append] at N9z))) | ((with_reducible show wpAny _ _ (eval (PySem.Expr.Call _ _ _ _) _) _ _ _); first | with_reducible ((k_here; (with_reducible show wpAny _ _ (eval (PySem.Expr.Call (PySem.Expr.Name _ _) (PySem.Expr.Name _ _ :: _) [] _) _) _ _ _); k_dflt (rename Fr _ _ _ _ => F8z; refine' callV F8z ?z_X ?z_f ?z_k ?z_a rfl ?_; (case z_X => k_asm); (case z_f => walk_at "mine vv"); (case z_k => k_is); (case z_a => walk_at "mine av")))) | with_reducible (k_fold)) | ((with_reducible show wpAny _ _ (eval (PySem.Expr.Subscript _ _ _) _) _ _ _); first | with_reducible (k_fold)) | ((with_reducible show wpAny _ _ (eval (PySem.Expr.BinOp _ _ _ _) _) _ _ _); first | with_reducible (k_fold)) | ((with_reducible show wpAny _ _ (execs (_ :: _) _) _ _ _); first | with_reducible (first | k_fold | (rename StMark _ => mk9z; refine tok_gen mk9z ?_; intro k9z; (with_reducible refine wpAny_execs_cons ?_); try dsimp only))) | ((with_reducible show BodyQ _ _ _ _ _ _); first | with_reducible (refine Stop.of ?_)) | ((with_reducible show wpAny _ _ (subscriptTail _ _ _ _) _ _ _); first | with_reducible (((k_here; (with_reducible show wpAny _ _ (subscriptTail _ _ (Value.ref _) (Value.int _ _)) _ _ _); k_dflt (refine' made_item ?z_N ?z_m ?z_a ?z_x ?_ ?z_s; (case z_N => k_asm); (case z_m => k_mem); (case z_a => rfl); (case z_x => rfl); (case z_s => with_unfolding_all rfl); k_whole))))) | walk1 | dsimp only)
    ((refine Stop.go ?_; (repeat (first | k_unfold | dsimp only))))
    exact BodyQ.int (by assumption) rfl

theorem non_pawn_value_spec (w : World) (ap : Addr) (f r : Nat) (K S : Nat → Nat) (sd : Nat) (c : Nat) (x : Int) (t1 : Tok) (hx : x = (c : Int)) (hc : c = 0 ∨ c = 1) :
    Spec w 64 4 (fun h => PosAt h ap f r K S sd) [.ref ap, .int x t1] (fun v tl => tl = [] ∧ ∃ t, v = .int (worth 2 (rowc K S c)) t) := by
  subst hx
  refine' spec_of [(Str.ofString "pos", .ref ap), (Str.ofString "side", .int (c : Int) t1)] ?h1 ?h2 ?h3 ?h4 ?h5 ?h6 ?h7 ?h8 ?h9 ?_
  case h1 => k_is
  case h2 => k_is
  case h3 => omega
  case h4 => rfl
  case h5 => exact locs rfl
  case h6 => rfl
  case h7 => rfl
  case h8 => rfl
  case h9 => decide
  intro mean mg mb dp un gd outer A₀ base g L h₁ tk s B F X N T hpre hd hu
  change Fr g L h₁ (fun y => List.lookup y [(Str.ofString "side", Value.int (c : Int) t1), (Str.ofString "pos", Value.ref ap)]) at F
  refine letAE ?_
  intro A9 e9
  have sm9 := stMark s
  rcases hc with rfl | rfl
  · repeat' (first | (k_unfold; (try dsimp only)) | ((with_reducible show wpAny _ _ (subscriptTail (PySem.Expr.Name _ _) (PySem.Expr.BinOp _ _ _ _) (Value.ref _) (Value.int _ _)) _ _ _); first | with_reducible (((k_here; (with_reducible show wpAny _ _ (subscriptTail _ _ (Value.ref _) (Value.int _ _)) _ _ _); k_dflt (refine' made_item ?z_N ?z_m ?z_a ?z_x ?_ ?z_s; (case z_N => k_asm); (case z_m => k_mem); (case z_a => rfl); (case z_x => rfl); (case z_s => with_unfolding_all rfl); k_whole))))) | ((with_reducible show wpAny _ _ (call (Value.ref _) _) _ _ _); first | with_reducible ((k_here; (with_reducible show wpAny _ _ (call (Value.ref 50) _) _ _ _); k_dflt (refine' Spec.useI (worth_of_spec _ _ _ _ _ _ ?z_c1 ?z_c2) ?z_B ?z_F ?z_X ?z_N ?z_T ?z_hk ?z_hd ?z_hu ?z_hp ?_; (case z_c1 => first | exact (rfl : _ = ((1 : Nat) : Int)) | exact (rfl : _ = ((2 : Nat) : Int))); (case z_c2 => decide); (((case z_F => k_asm); (case z_N => k_asm); (case z_B => k_asm); (case z_X => k_asm); (case z_T => k_asm); (case z_hk => rfl); (case z_hd => first | exact roomD (by with_reducible assumption) rfl | omega); (case z_hu => first | exact roomU (by with_reducible assumption) rfl | omega))); (case z_hp => exact RowAt.of (by k_asm) (by k_mem) (by assumption))); (intro t9z h9z tk9z F9z N9z))) | with_reducible ((k_here; (with_reducible show wpAny _ _ (call (Value.ref 43) _) _ _ _); k_dflt (refine' Spec.use (counts_of_spec _ _ _ _ _ _ _) ?z_B ?z_F ?z_X ?z_N ?z_T ?z_hk ?z_hd ?z_hu ?z_hp ?_; (((case z_F => k_asm); (case z_N => k_asm); (case z_B => k_asm); (case z_X => k_asm); (case z_T => k_asm); (case z_hk => rfl); (case z_hd => first | exact roomD (by with_reducible assumption) rfl | omega); (case z_hu => first | exact roomU (by with_reducible assumption) rfl | omega))); (case z_hp => exact PosAt.keeps (by assumption) (Fr.keep (by assumption)))); intro v9z tl9z h9z tk9z F9z N9z D9z o9z; clear D9z; k_dflt (obtain ⟨a8z, r0z, r1z, v0z, v1z, n8z, n0z, n1z, e8z, e9z, i0z, i1z⟩ := o9z); subst e8z; subst e9z; dsimp only [List.cons_append, List.nil_append] at N9z))) | ((with_reducible show wpAny _ _ (eval (PySem.Expr.Call _ _ _ _) _) _ _ _); first | with_reducible ((k_here; (with_reducible show wpAny _ _ (eval (PySem.Expr.Call (PySem.Expr.Name _ _) (PySem.Expr.Name _ _ :: _) [] _) _) _ _ _); k_dflt (rename Fr _ _ _ _ => F8z; refine' callV F8z ?z_X ?z_f ?z_k ?z_a rfl ?_; (case z_X => k_asm); (case z_f => walk_at "mine vv"); (case z_k => k_is); (case z_a => walk_at "mine av")))) | with_reducible (k_fold)) | ((with_reducible show wpAny _ _ (eval (PySem.Expr.Subscript _ _ _) _) _ _ _); first | with_reducible (k_fold)) | ((with_reducible show wpAny _ _ (eval (PySem.Expr.BinOp _ _ _ _) _) _ _ _); first | with_reducible (k_fold)) | ((with_reducible show wpAny _ _ (execs (_ :: _) _) _ _ _); first | with_reducible (first | k_fold | (rename StMark _ => mk9z; refine tok_gen mk9z ?_; intro k9z; (with_reducible refine wpAny_execs_cons ?_); try dsimp only))) | ((with_reducible show BodyQ _ _ _ _ _ _); first | with_reducible (refine Stop.of ?_)) | ((with_reducible show wpAny _ _ (subscriptTail _ _ _ _) _ _ _); first | with_reducible (((k_here; (with_reducible show wpAny _ _ (subscriptTail _ _ (Value.ref _) (Value.int _ _)) _ _ _); k_dflt (refine' made_item ?z_N ?z_m ?z_a ?z_x ?_ ?z_s; (case z_N => k_asm); (case z_m => k_mem); (case z_a => rfl); (case z_x => rfl); (case z_s => with_unfolding_all rfl); k_whole))))) | walk1 | dsimp only)
    ((refine Stop.go ?_; (repeat (first | k_unfold | dsimp only))))
    exact BodyQ.int (by assumption) rfl
  · repeat' (first | (k_unfold; (try dsimp only)) | ((with_reducible show wpAny _ _ (subscriptTail (PySem.Expr.Name _ _) (PySem.Expr.BinOp _ _ _ _) (Value.ref _) (Value.int _ _)) _ _ _); first | with_reducible (((k_here; (with_reducible show wpAny _ _ (subscriptTail _ _ (Value.ref _) (Value.int _ _)) _ _ _); k_dflt (refine' made_item ?z_N ?z_m ?z_a ?z_x ?_ ?z_s; (case z_N => k_asm); (case z_m => k_mem); (case z_a => rfl); (case z_x => rfl); (case z_s => with_unfolding_all rfl); k_whole))))) | ((with_reducible show wpAny _ _ (call (Value.ref _) _) _ _ _); first | with_reducible ((k_here; (with_reducible show wpAny _ _ (call (Value.ref 50) _) _ _ _); k_dflt (refine' Spec.useI (worth_of_spec _ _ _ _ _ _ ?z_c1 ?z_c2) ?z_B ?z_F ?z_X ?z_N ?z_T ?z_hk ?z_hd ?z_hu ?z_hp ?_; (case z_c1 => first | exact (rfl : _ = ((1 : Nat) : Int)) | exact (rfl : _ = ((2 : Nat) : Int))); (case z_c2 => decide); (((case z_F => k_asm); (case z_N => k_asm); (case z_B => k_asm); (case z_X => k_asm); (case z_T => k_asm); (case z_hk => rfl); (case z_hd => first | exact roomD (by with_reducible assumption) rfl | omega); (case z_hu => first | exact roomU (by with_reducible assumption) rfl | omega))); (case z_hp => exact RowAt.of (by k_asm) (by k_mem) (by assumption))); (intro t9z h9z tk9z F9z N9z))) | with_reducible ((k_here; (with_reducible show wpAny _ _ (call (Value.ref 43) _) _ _ _); k_dflt (refine' Spec.use (counts_of_spec _ _ _ _ _ _ _) ?z_B ?z_F ?z_X ?z_N ?z_T ?z_hk ?z_hd ?z_hu ?z_hp ?_; (((case z_F => k_asm); (case z_N => k_asm); (case z_B => k_asm); (case z_X => k_asm); (case z_T => k_asm); (case z_hk => rfl); (case z_hd => first | exact roomD (by with_reducible assumption) rfl | omega); (case z_hu => first | exact roomU (by with_reducible assumption) rfl | omega))); (case z_hp => exact PosAt.keeps (by assumption) (Fr.keep (by assumption)))); intro v9z tl9z h9z tk9z F9z N9z D9z o9z; clear D9z; k_dflt (obtain ⟨a8z, r0z, r1z, v0z, v1z, n8z, n0z, n1z, e8z, e9z, i0z, i1z⟩ := o9z); subst e8z; subst e9z; dsimp only [List.cons_append, List.nil_append] at N9z))) | ((with_reducible show wpAny _ _ (eval (PySem.Expr.Call _ _ _ _) _) _ _ _); first | with_reducible ((k_here; (with_reducible show wpAny _ _ (eval (PySem.Expr.Call (PySem.Expr.Name _ _) (PySem.Expr.Name _ _ :: _) [] _) _) _ _ _); k_dflt (rename Fr _ _ _ _ => F8z; refine' callV F8z ?z_X ?z_f ?z_k ?z_a rfl ?_; (case z_X => k_asm); (case z_f => walk_at "mine vv"); (case z_k => k_is); (case z_a => walk_at "mine av")))) | with_reducible (k_fold)) | ((with_reducible show wpAny _ _ (eval (PySem.Expr.Subscript _ _ _) _) _ _ _); first | with_reducible (k_fold)) | ((with_reducible show wpAny _ _ (eval (PySem.Expr.BinOp _ _ _ _) _) _ _ _); first | with_reducible (k_fold)) | ((with_reducible show wpAny _ _ (execs (_ :: _) _) _ _ _); first | with_reducible (first | k_fold | (rename StMark _ => mk9z; refine tok_gen mk9z ?_; intro k9z; (with_reducible refine wpAny_execs_cons ?_); try dsimp only))) | ((with_reducible show BodyQ _ _ _ _ _ _); first | with_reducible (refine Stop.of ?_)) | ((with_reducible show wpAny _ _ (subscriptTail _ _ _ _) _ _ _); first | with_reducible (((k_here; (with_reducible show wpAny _ _ (subscriptTail _ _ (Value.ref _) (Value.int _ _)) _ _ _); k_dflt (refine' made_item ?z_N ?z_m ?z_a ?z_x ?_ ?z_s; (case z_N => k_asm); (case z_m => k_mem); (case z_a => rfl); (case z_x => rfl); (case z_s => with_unfolding_all rfl); k_whole))))) | walk1 | dsimp only)
    ((refine Stop.go ?_; (repeat (first | k_unfold | dsimp only))))
    exact BodyQ.int (by assumption) rfl



end
-- part C7
example : True := by w_top off; trivial
section
noncomputable def phaseV (f r : Nat) (a b : Int) : Int :=
  (((if (15258 * ((f : Int) * (r : Int))).fdiv 64 < (if (3915 * ((f : Int) * (r : Int))).fdiv 64 > a + b then (3915 * ((f : Int) * (r : Int))).fdiv 64 else a + b) then (15258 * ((f : Int) * (r : Int))).fdiv 64
    else (if (3915 * ((f : Int) * (r : Int))).fdiv 64 > a + b then (3915 * ((f : Int) * (r : Int))).fdiv 64 else a + b)) - (3915 * ((f : Int) * (r : Int))).fdiv 64) * 128).fdiv ((15258 * ((f : Int) * (r : Int))).fdiv 64 - (3915 * ((f : Int) * (r : Int))).fdiv 64)
theorem phase_gap {x : Int} (h : 6 ≤ x) (h2 : x ≤ 64) : 0 < (15258 * x).fdiv 64 - (3915 * x).fdiv 64 ∧ (15258 * x).fdiv 64 - (3915 * x).fdiv 64 < 100000 := by
  rw [Int.fdiv_eq_ediv_of_nonneg _ (by decide), Int.fdiv_eq_ediv_of_nonneg _ (by decide)]
  omega

theorem phase_of_spec (w : World) (ap : Addr) (f r : Nat) (K S : Nat → Nat) (sd : Nat) :
    Spec w 71 4 (fun h => PosAt h ap f r K S sd) [.ref ap] (fun v tl => tl = [] ∧ ∃ t, v = .int (phaseV f r (worth 2 (rowc K S 0)) (worth 2 (rowc K S 1))) t) := by
  refine' spec_of [(Str.ofString "pos", .ref ap)] ?h1 ?h2 ?h3 ?h4 ?h5 ?h6 ?h7 ?h8 ?h9 ?_
  case h1 => k_is
  case h2 => k_is
  case h3 => omega
  case h4 => rfl
  case h5 => exact locs rfl
  case h6 => rfl
  case h7 => rfl
  case h8 => rfl
  case h9 => decide
  intro mean mg mb dp un gd outer A₀ base g L h₁ tk s B F X N T hpre hd hu
  change Fr g L h₁ (fun y => List.lookup y [(Str.ofString "pos", Value.ref ap)]) at F
  refine letAE ?_
  intro A9 e9
  have sm9 := stMark s
  obtain ⟨P, hm, ok⟩ := id hpre
  have m1 := pm1 hm
  have m2 := pm2 hm
  have m3 := pm3 hm
  have m4 := pm4 hm
  have m5 := pm5 hm
  have m6 := pm6 hm
  have g0 := ok.geo
  have g1 := ok.kinds
  have g2 := ok.sides
  have i1 := ok.kv
  have i2 := ok.sv
  have l1 := ok.lk
  have l2 := ok.ls
  obtain ⟨t3, g3⟩ := ok.side
  obtain ⟨t4, g4⟩ := ok.size
  obtain ⟨t5, g5⟩ := ok.files
  obtain ⟨hf1, hf2⟩ := ok.hf
  obtain ⟨hr1, hr2⟩ := ok.hr
  clear hm
  obtain ⟨hc, hn1, hn2, hn3, hn4⟩ := fr_bounds hf1 hf2 hr1 hr2
  obtain ⟨hgap, hgap1⟩ := phase_gap hn3 hn4
  have hgap0 : (15258 * ((f : Int) * (r : Int))).fdiv 64 - (3915 * ((f : Int) * (r : Int))).fdiv 64 ≠ 0 := by omega
  repeat' (first | (k_unfold; (try dsimp only)) | ((with_reducible show wpAny _ _ (subscriptTail (PySem.Expr.Name _ _) (PySem.Expr.Name _ _) (Value.ref _) (Value.int _ _)) _ _ _); first | with_reducible (((k_here; (with_reducible show wpAny _ _ (subscriptTail _ _ (Value.ref _) (Value.int _ _)) _ _ _); k_dflt (refine' made_item ?z_N ?z_m ?z_a ?z_x ?_ ?z_s; (case z_N => k_asm); (case z_m => k_mem); (case z_a => rfl); (case z_x => rfl); (case z_s => with_unfolding_all rfl); k_whole))))) | ((with_reducible show wpAny _ _ (call (Value.ref _) _) _ _ _); first | with_reducible ((k_here; (with_reducible show wpAny _ _ (call (Value.ref 50) _) _ _ _); k_dflt (refine' Spec.useI (worth_of_spec _ _ _ _ _ _ ?z_c1 ?z_c2) ?z_B ?z_F ?z_X ?z_N ?z_T ?z_hk ?z_hd ?z_hu ?z_hp ?_; (case z_c1 => first | exact (rfl : _ = ((1 : Nat) : Int)) | exact (rfl : _ = ((2 : Nat) : Int))); (case z_c2 => decide); (((case z_F => k_asm); (case z_N => k_asm); (case z_B => k_asm); (case z_X => k_asm); (case z_T => k_asm); (case z_hk => rfl); (case z_hd => first | exact roomD (by with_reducible assumption) rfl | omega); (case z_hu => first | exact roomU (by with_reducible assumption) rfl | omega))); (case z_hp => exact RowAt.of (by k_asm) (by k_mem) (by assumption))); (intro t9z h9z tk9z F9z N9z))) | with_reducible ((k_here; (with_reducible show wpAny _ _ (call (Value.ref 43) _) _ _ _); k_dflt (refine' Spec.use (counts_of_spec _ _ _ _ _ _ _) ?z_B ?z_F ?z_X ?z_N ?z_T ?z_hk ?z_hd ?z_hu ?z_hp ?_; (((case z_F => k_asm); (case z_N => k_asm); (case z_B => k_asm); (case z_X => k_asm); (case z_T => k_asm); (case z_hk => rfl); (case z_hd => first | exact roomD (by with_reducible assumption) rfl | omega); (case z_hu => first | exact roomU (by with_reducible assumption) rfl | omega))); (case z_hp => exact PosAt.keeps (by assumption) (Fr.keep (by assumption)))); intro v9z tl9z h9z tk9z F9z N9z D9z o9z; clear D9z; k_dflt (obtain ⟨a8z, r0z, r1z, v0z, v1z, n8z, n0z, n1z, e8z, e9z, i0z, i1z⟩ := o9z); subst e8z; subst e9z; dsimp only [List.cons_append, List.nil_append] at N9z))) | ((with_reducible show wpAny _ _ (eval (PySem.Expr.Call _ _ _ _) _) _ _ _); first | with_reducible ((k_here; (with_reducible show wpAny _ _ (eval (PySem.Expr.Call (PySem.Expr.Name _ _) (PySem.Expr.Name _ _ :: _) [] _) _) _ _ _); k_dflt (rename Fr _ _ _ _ => F8z; refine' callV F8z ?z_X ?z_f ?z_k ?z_a rfl ?_; (case z_X => k_asm); (case z_f => walk_at "mine vv"); (case z_k => k_is); (case z_a => walk_at "mine av")))) | with_reducible (k_fold)) | ((with_reducible show wpAny _ _ (eval (PySem.Expr.Subscript _ _ _) _) _ _ _); first | with_reducible (k_fold)) | ((with_reducible show wpAny _ _ (eval (PySem.Expr.BinOp _ _ _ _) _) _ _ _); first | with_reducible (k_fold)) | ((with_reducible show wpAny _ _ (execs (_ :: _) _) _ _ _); first | with_reducible (first | k_fold | (rename StMark _ => mk9z; refine tok_gen mk9z ?_; intro k9z; (with_reducible refine wpAny_execs_cons ?_); try dsimp only))) | ((with_reducible show BodyQ _ _ _ _ _ _); first | with_reducible (refine Stop.of ?_)) | walk1 | dsimp only)
  ((refine Stop.go ?_; (repeat (first | k_unfold | dsimp only))))
  exact BodyQ.int (by assumption) rfl



end
-- part C8
example : True := by w_top off; trivial
section
noncomputable def GeoAt (h : Heap) (ag : Addr) (f r : Nat) : Prop :=
  ∃ dg eg ng, h.get? ag = some (instObj 123 dg) ∧ h.get? dg = some (dictOf eg ng) ∧ (∃ t, getL (PySem.Str.ofString "files") eg = some (some (.int (f : Int) t))) ∧ (∃ t, getL (PySem.Str.ofString "size") eg = some (some (.int ((f : Int) * (r : Int)) t))) ∧ (2 ≤ f ∧ f ≤ 8) ∧ (3 ≤ r ∧ r ≤ 8)
theorem GeoAt.keeps {h h' : Heap} {ag : Addr} {f r : Nat} (x : GeoAt h ag f r) (hs : ∀ b o, h.get? b = some o → h'.get? b = some o) : GeoAt h' ag f r := by
  obtain ⟨dg, eg, ng, a, b, c⟩ := x
  exact ⟨dg, eg, ng, hs _ _ a, hs _ _ b, c⟩
noncomputable def lightB (f n : Nat) : List Bool := (List.range n).map fun s => decide ((s % f + s / f) % 2 = 1)

theorem lightB_len (f n : Nat) : (lightB f n).length = n := by simp [lightB]
theorem lightB_succ (f n : Nat) : lightB f (n + 1) = lightB f n ++ [decide ((n % f + n / f) % 2 = 1)] := by simp [lightB, List.range_succ]
theorem light_test {n f : Nat} {k : Int} (h : k = 0 + (n : Int)) : Builtin.bitAnd (Int.fmod k f + Int.fdiv k f) 1 = (((n % f + n / f) % 2 : Nat) : Int) := by
  have hk : k = (n : Int) := by lia
  subst hk
  rw [Int.fmod_eq_emod_of_nonneg _ (Int.natCast_nonneg f), Int.fdiv_eq_ediv_of_nonneg _ (Int.natCast_nonneg f), ← Int.natCast_emod, ← Int.natCast_ediv, ← Int.natCast_add]
  rw [show (1 : Int) = ((1 : Nat) : Int) from rfl, bitAnd_nat]
  rw [Nat.and_one_is_mod]
theorem light_or {n f : Nat} {k : Int} (h : k = 0 + (n : Int)) (ht : (n % f + n / f) % 2 = 1) : Builtin.bitOr ((bw (lightB f n) : Nat) : Int) (1 * 2 ^ k.toNat) = ((bw (lightB f (n + 1)) : Nat) : Int) := by
  have hk : k.toNat = n := by lia
  rw [hk, Int.one_mul, show ((2 : Int) ^ n) = ((2 ^ n : Nat) : Int) by simp, bitOr_nat, lightB_succ, bw_snoc]
  have := bw_or (lightB f n)
  rw [lightB_len] at this ⊢
  rw [this]
  simp [ht]
theorem light_no {n f : Nat} (ht : ¬ (n % f + n / f) % 2 = 1) : bw (lightB f n) = bw (lightB f (n + 1)) := by
  rw [lightB_succ, bw_snoc]
  simp [ht]

end
section

theorem light_squares_spec (w : World) (ag : Addr) (f r : Nat) :
    Spec w 78 1 (fun h => GeoAt h ag f r) [.ref ag] (fun v tl => tl = [] ∧ ∃ t, v = .int (bw (lightB f (f * r)) : Int) t) := by
  refine' spec_of [(Str.ofString "geo", .ref ag)] ?h1 ?h2 ?h3 ?h4 ?h5 ?h6 ?h7 ?h8 ?h9 ?_
  case h1 => k_is
  case h2 => k_is
  case h3 => lia
  case h4 => rfl
  case h5 => exact locs rfl
  case h6 => rfl
  case h7 => rfl
  case h8 => rfl
  case h9 => decide
  intro mean mg mb dp un gd outer A₀ base g L h₁ tk s B F X N T hpre hd hu
  obtain ⟨dg, eg, ng, m1, m2, ⟨t3, g3⟩, ⟨t4, g4⟩, ⟨hf1, hf2⟩, hr1, hr2⟩ := hpre
  change Fr g L h₁ (fun y => List.lookup y [(Str.ofString "geo", Value.ref ag)]) at F
  refine letAE ?_
  intro A9 e9
  have sm9 := stMark s
  repeat' (first | (k_unfold; (try dsimp only)) | ((with_reducible show wpAny _ _ (exec (PySem.Stmt.For (PySem.Expr.Name _ _) (PySem.Expr.Call _ _ _ _) _ _ _) _) _ _ _); first | with_reducible ((k_here; (rename Fr _ _ _ _ => lF'z); (with_unfolding_all refine' For_invVF lF'z ?z_k1 ?z_k2 ?_; (case z_k1 => exact rfl); (case z_k2 => exact rfl); k_whole)))) | ((with_reducible show wpAny _ _ (pyIter (Value.ref _)) _ _ _); first | with_reducible (((with_reducible show wpAny _ _ (pyIter (Value.ref _)) (fun it s₂ => LoopAtV _ _ _ _ _ _ _ _ _ it s₂) _ _); refine Stop.of ?_))) | ((with_reducible show wpAny _ _ (eval (PySem.Expr.Call _ _ _ _) _) _ _ _); first | with_reducible ((k_here; (with_reducible show wpAny _ _ (eval (PySem.Expr.Call (PySem.Expr.Name _ _) (PySem.Expr.Name _ _ :: _) [] _) _) _ _ _); k_dflt (rename Fr _ _ _ _ => F8z; refine' callV F8z ?z_X ?z_f ?z_k ?z_a rfl ?_; (case z_X => k_asm); (case z_f => walk_at "mine vv"); (case z_k => k_is); (case z_a => walk_at "mine av")))) | with_reducible (k_fold)) | ((with_reducible show wpAny _ _ (eval (PySem.Expr.BinOp _ _ _ _) _) _ _ _); first | with_reducible (k_fold)) | ((with_reducible show wpAny _ _ (execs (_ :: _) _) _ _ _); first | with_reducible (first | k_fold | (rename StMark _ => mk9z; refine tok_gen mk9z ?_; intro k9z; (with_reducible refine wpAny_execs_cons ?_); try dsimp only))) | ((with_reducible show PySem.W.InvEndN _ _ _ _ _ _ _); first | with_reducible (refine Stop.of ?_)) | ((with_reducible show BodyQ _ _ _ _ _ _); first | with_reducible (refine Stop.of ?_)) | walk1 | dsimp only)
  refine Stop.go ?_
  rename IsRange _ _ _ _ _ _ _ _ => R9
  rename Fr _ _ _ _ => F9
  rename News _ _ _ _ => N9
  have hn : f * r ≤ 64 := Nat.mul_le_mul hf2 hr2
  have hc : ((f : Int) * (r : Int)) = ((f * r : Nat) : Int) := (Int.natCast_mul f r).symm
  refine' kst_range (σ := Nat × Tok) (n := f * r) (fun _ => []) (fun c => [(Str.ofString "b", .int (c.1 : Int) c.2)]) (fun _ => True) [] (fun pre c => c.1 = bw (lightB f pre.length)) (0, ?tc) rfl R9 ?small ?size F9 N9 trivial ?hk ?hp ?turn ?done
  case small => exact small_one (by lia) (by lia) (by lia) (by lia)
  case size => rw [rangeSize_nat]; lia
  case hk => kst_all
  case hp => rfl
  case turn =>
    rintro ⟨x, tx⟩ pre k t u h tk own hk hlt hoff _ hP F2 N2
    dsimp only [kstB] at hP F2
    have hk0 : 0 ≤ k := by lia
    have hk1 : k < 64 := by lia
    clear F9 N9 R9
    repeat' (first | (k_unfold; (try dsimp only)) | ((with_reducible show wpAny _ _ (exec (PySem.Stmt.For (PySem.Expr.Name _ _) (PySem.Expr.Call _ _ _ _) _ _ _) _) _ _ _); first | with_reducible ((k_here; (rename Fr _ _ _ _ => lF'z); (with_unfolding_all refine' For_invVF lF'z ?z_k1 ?z_k2 ?_; (case z_k1 => exact rfl); (case z_k2 => exact rfl); k_whole)))) | ((with_reducible show wpAny _ _ (pyIter (Value.ref _)) _ _ _); first | with_reducible (((with_reducible show wpAny _ _ (pyIter (Value.ref _)) (fun it s₂ => LoopAtV _ _ _ _ _ _ _ _ _ it s₂) _ _); refine Stop.of ?_))) | ((with_reducible show wpAny _ _ (eval (PySem.Expr.Call _ _ _ _) _) _ _ _); first | with_reducible ((k_here; (with_reducible show wpAny _ _ (eval (PySem.Expr.Call (PySem.Expr.Name _ _) (PySem.Expr.Name _ _ :: _) [] _) _) _ _ _); k_dflt (rename Fr _ _ _ _ => F8z; refine' callV F8z ?z_X ?z_f ?z_k ?z_a rfl ?_; (case z_X => k_asm); (case z_f => walk_at "mine vv"); (case z_k => k_is); (case z_a => walk_at "mine av")))) | with_reducible (k_fold)) | ((with_reducible show wpAny _ _ (eval (PySem.Expr.BinOp _ _ _ _) _) _ _ _); first | with_reducible (k_fold)) | ((with_reducible show wpAny _ _ (execs (_ :: _) _) _ _ _); first | with_reducible (first | k_fold | (rename StMark _ => mk9z; refine tok_gen mk9z ?_; intro k9z; (with_reducible refine wpAny_execs_cons ?_); try dsimp only))) | ((with_reducible show PySem.W.InvEndN _ _ _ _ _ _ _); first | with_reducible (refine Stop.of ?_)) | ((with_reducible show BodyQ _ _ _ _ _ _); first | with_reducible (refine Stop.of ?_)) | walk1 | dsimp only)
    · refine Stop.go ?_
      rename Builtin.bitAnd _ _ ≠ 0 => hb
      rw [light_test hk] at hb
      have hl := light_or (f := f) hk (by lia)
      refine' kst_end (bw (lightB f (pre.length + 1)), ?t1) (by assumption) (by assumption) (fun p hp => nomatch hp) (fun p hp => List.mem_append_right _ hp) rfl trivial ?hk (by kst_same) ?hp
      case hk => rw [← hl, ← hP]; kst_all
      case hp => simp
    · refine Stop.go ?_
      rename Builtin.bitAnd _ _ = 0 => hb
      rw [light_test hk] at hb
      have hl := light_no (f := f) (n := pre.length) (by lia)
      refine' kst_end (x, tx) (by assumption) (by assumption) (fun p hp => nomatch hp) (fun p hp => List.mem_append_right _ hp) rfl trivial ?hk (by kst_same) ?hp
      case hk => kst_all
      case hp => simp [hP, hl]
  case done =>
    rintro ⟨x, tx⟩ u h tk _ hP F2 N2
    clear F9 N9 R9
    dsimp only at hP
    rw [rangeKs_length] at hP
    dsimp only [kstB] at F2
    dsimp only
    repeat' (first | (k_unfold; (try dsimp only)) | ((with_reducible show wpAny _ _ (exec (PySem.Stmt.For (PySem.Expr.Name _ _) (PySem.Expr.Call _ _ _ _) _ _ _) _) _ _ _); first | with_reducible ((k_here; (rename Fr _ _ _ _ => lF'z); (with_unfolding_all refine' For_invVF lF'z ?z_k1 ?z_k2 ?_; (case z_k1 => exact rfl); (case z_k2 => exact rfl); k_whole)))) | ((with_reducible show wpAny _ _ (pyIter (Value.ref _)) _ _ _); first | with_reducible (((with_reducible show wpAny _ _ (pyIter (Value.ref _)) (fun it s₂ => LoopAtV _ _ _ _ _ _ _ _ _ it s₂) _ _); refine Stop.of ?_))) | ((with_reducible show wpAny _ _ (eval (PySem.Expr.Call _ _ _ _) _) _ _ _); first | with_reducible ((k_here; (with_reducible show wpAny _ _ (eval (PySem.Expr.Call (PySem.Expr.Name _ _) (PySem.Expr.Name _ _ :: _) [] _) _) _ _ _); k_dflt (rename Fr _ _ _ _ => F8z; refine' callV F8z ?z_X ?z_f ?z_k ?z_a rfl ?_; (case z_X => k_asm); (case z_f => walk_at "mine vv"); (case z_k => k_is); (case z_a => walk_at "mine av")))) | with_reducible (k_fold)) | ((with_reducible show wpAny _ _ (eval (PySem.Expr.BinOp _ _ _ _) _) _ _ _); first | with_reducible (k_fold)) | ((with_reducible show wpAny _ _ (execs (_ :: _) _) _ _ _); first | with_reducible (first | k_fold | (rename StMark _ => mk9z; refine tok_gen mk9z ?_; intro k9z; (with_reducible refine wpAny_execs_cons ?_); try dsimp only))) | ((with_reducible show PySem.W.InvEndN _ _ _ _ _ _ _); first | with_reducible (refine Stop.of ?_)) | ((with_reducible show BodyQ _ _ _ _ _ _); first | with_reducible (refine Stop.of ?_)) | walk1 | dsimp only)
    ((refine Stop.go ?_; (repeat (first | k_unfold | dsimp only))))
    refine BodyQ.nil (by assumption) ⟨tx, ?_⟩
    rw [← hP]



end
-- part C9
example : True := by w_top off; trivial
section
noncomputable def oppV (K S : Nat → Nat) (f n : Nat) : Bool :=
  decide (pc (K 3 &&& S 0) = 1) && decide (pc (K 3 &&& S 1) = 1) && (decide ((K 3 &&& S 0) &&& bw (lightB f n) ≠ 0) != decide ((K 3 &&& S 1) &&& bw (lightB f n) ≠ 0))

theorem oppV_0 {K S : Nat → Nat} {f n : Nat} (h : ((pc (K 3 &&& S 0) : Nat) : Int) ≠ 1) : false = oppV K S f n := by
  unfold oppV
  rw [decide_eq_false (p := pc (K 3 &&& S 0) = 1) (by lia)]
  rfl
theorem oppV_1 {K S : Nat → Nat} {f n : Nat} (h : ((pc (K 3 &&& S 1) : Nat) : Int) ≠ 1) : false = oppV K S f n := by
  unfold oppV
  rw [decide_eq_false (p := pc (K 3 &&& S 1) = 1) (by lia), Bool.and_false]
  rfl
theorem bne_nat (x : Nat) : ((x : Int) != 0) = decide (x ≠ 0) := by
  by_cases h : x = 0
  · subst h; rfl
  · rw [decide_eq_true h]
    exact bne_iff_ne.mpr (by lia)
theorem oppV_2 {K S : Nat → Nat} {f n : Nat} {a b : Int} (h0 : ((pc (K 3 &&& S 0) : Nat) : Int) = 1) (h1 : ((pc (K 3 &&& S 1) : Nat) : Int) = 1) (ea : a = ((K 3 &&& S 0 : Nat) : Int)) (eb : b = ((K 3 &&& S 1 : Nat) : Int)) :
    ((Builtin.bitAnd a ((bw (lightB f n) : Nat) : Int) != 0) != (Builtin.bitAnd b ((bw (lightB f n) : Nat) : Int) != 0)) = oppV K S f n := by
  unfold oppV
  rw [ea, eb, bitAnd_nat, bitAnd_nat, bne_nat, bne_nat, decide_eq_true (p := pc (K 3 &&& S 0) = 1) (by lia), decide_eq_true (p := pc (K 3 &&& S 1) = 1) (by lia), Bool.and_true, Bool.true_and]

theorem has_opposite_bishops_spec (w : World) (ap : Addr) (f r : Nat) (K S : Nat → Nat) (sd : Nat) :
    Spec w 85 2 (fun h => PosAt h ap f r K S sd) [.ref ap] (fun v tl => tl = [] ∧ v = .bool (oppV K S f (f * r))) := by
  refine' spec_of [(Str.ofString "pos", .ref ap)] ?h1 ?h2 ?h3 ?h4 ?h5 ?h6 ?h7 ?h8 ?h9 ?_
  case h1 => k_is
  case h2 => k_is
  case h3 => omega
  case h4 => rfl
  case h5 => exact locs rfl
  case h6 => rfl
  case h7 => rfl
  case h8 => rfl
  case h9 => decide
  intro mean mg mb dp un gd outer A₀ base g L h₁ tk s B F X N T hpre hd hu
  change Fr g L h₁ (fun y => List.lookup y [(Str.ofString "pos", Value.ref ap)]) at F
  refine letAE ?_
  intro A9 e9
  have sm9 := stMark s
  obtain ⟨P, hm, ok⟩ := id hpre
  have m1 := pm1 hm
  have m2 := pm2 hm
  have m3 := pm3 hm
  have m4 := pm4 hm
  have m5 := pm5 hm
  have m6 := pm6 hm
  have g0 := ok.geo
  have g1 := ok.kinds
  have g2 := ok.sides
  have i1 := ok.kv
  have i2 := ok.sv
  have l1 := ok.lk
  have l2 := ok.ls
  obtain ⟨t3, g3⟩ := ok.side
  obtain ⟨t4, g4⟩ := ok.size
  obtain ⟨t5, g5⟩ := ok.files
  obtain ⟨hf1, hf2⟩ := ok.hf
  obtain ⟨hr1, hr2⟩ := ok.hr
  clear hm
  have hgeo : GeoAt g P.ag f r := ⟨P.dg, P.eg, P.ng, m3, m4, ok.files, ok.size, ok.hf, ok.hr⟩
  have e1 : Builtin.bitAnd (P.KI.getD (3 : Int).toNat 0) (P.SI.getD (0 : Int).toNat 0) = ((K 3 &&& S 0 : Nat):Int) := by
    rw [show (3 : Int).toNat = 3 from rfl, show (0 : Int).toNat = 0 from rfl, ok.k 3 (by lia), ok.s 0 (by lia), bitAnd_nat]
  have e2 : Builtin.bitAnd (P.KI.getD (3 : Int).toNat 0) (P.SI.getD (1 : Int).toNat 0) = ((K 3 &&& S 1 : Nat):Int) := by
    rw [show (3 : Int).toNat = 3 from rfl, show (1 : Int).toNat = 1 from rfl, ok.k 3 (by lia), ok.s 1 (by lia), bitAnd_nat]
  repeat' (first | (k_unfold; (try dsimp only)) | ((with_reducible show wpAny _ _ (call (Value.ref _) _) _ _ _); first | with_reducible ((k_here; (with_reducible show wpAny _ _ (call (Value.ref 78) _) _ _ _); k_dflt (refine' Spec.useI (light_squares_spec _ _ _ _) ?z_B ?z_F ?z_X ?z_N ?z_T ?z_hk ?z_hd ?z_hu ?z_hp ?_; (((case z_F => k_asm); (case z_N => k_asm); (case z_B => k_asm); (case z_X => k_asm); (case z_T => k_asm); (case z_hk => rfl); (case z_hd => first | exact roomD (by with_reducible assumption) rfl | omega); (case z_hu => first | exact roomU (by with_reducible assumption) rfl | omega))); (case z_hp => exact GeoAt.keeps (by assumption) (Fr.keep (by assumption)))); (intro t9z h9z tk9z F9z N9z))) | with_reducible ((k_here; (with_reducible show wpAny _ _ (call (Value.ref 21) _) _ _ _); refine' Spec.useI (count_bits_at _ _ _ _ ?z_hx) ?z_B ?z_F ?z_X ?z_N ?z_T ?z_hk ?z_hd ?z_hu trivial ?_; (((case z_F => k_asm); (case z_N => k_asm); (case z_B => k_asm); (case z_X => k_asm); (case z_T => k_asm); (case z_hk => rfl); (case z_hd => first | exact roomD (by with_reducible assumption) rfl | omega); (case z_hu => first | exact roomU (by with_reducible assumption) rfl | omega))); (case z_hx => assumption); (intro t9z h9z tk9z F9z N9z)))) | ((with_reducible show wpAny _ _ (eval (PySem.Expr.Call _ _ _ _) _) _ _ _); first | with_reducible ((k_here; (with_reducible show wpAny _ _ (eval (PySem.Expr.Call (PySem.Expr.Name _ _) (PySem.Expr.Name _ _ :: _) [] _) _) _ _ _); k_dflt (rename Fr _ _ _ _ => F8z; refine' callV F8z ?z_X ?z_f ?z_k ?z_a rfl ?_; (case z_X => k_asm); (case z_f => walk_at "mine vv"); (case z_k => k_is); (case z_a => walk_at "mine av")))) | with_reducible (k_fold)) | ((with_reducible show wpAny _ _ (isTrue (PySem.Expr.Compare _ _ _ _) _ _) _ _ _); first | with_reducible (k_fold)) | ((with_reducible show wpAny _ _ (eval (PySem.Expr.Subscript _ _ _) _) _ _ _); first | with_reducible (k_fold)) | ((with_reducible show wpAny _ _ (eval (PySem.Expr.BinOp _ _ _ _) _) _ _ _); first | with_reducible (k_fold)) | ((with_reducible show wpAny _ _ (execs (_ :: _) _) _ _ _); first | with_reducible (first | k_fold | (rename StMark _ => mk9z; refine tok_gen mk9z ?_; intro k9z; (with_reducible refine wpAny_execs_cons ?_); try dsimp only))) | ((with_reducible show BodyQ _ _ _ _ _ _); first | with_reducible (refine Stop.of ?_)) | walk1 | dsimp only)
  · ((refine Stop.go ?_; (repeat (first | k_unfold | dsimp only))))
    exact BodyQ.bool (by assumption) (oppV_0 (by assumption))
  · ((refine Stop.go ?_; (repeat (first | k_unfold | dsimp only))))
    exact BodyQ.bool (by assumption) (oppV_1 (by assumption))
  · ((refine Stop.go ?_; (repeat (first | k_unfold | dsimp only))))
    exact BodyQ.bool (by assumption) (oppV_2 (by assumption) (by assumption) e1 e2)



end
-- part C10
example : True := by w_top off; trivial
section
theorem row_item {prog : Program} {w : World} {A : Around} {E : Value → Shared → Prop} {s : Shared} {h₀ : Heap} {L D : Addr} {news : List (Addr × Obj)} {vs : List Value} {R : List Int} {n : Nat} {k v : Int} {t : Tok} {value slice : PySem.Expr} {Q : Value → Shared → Prop} (N : News h₀ L s.heap news) (hm : (D, listOf vs.toArray n) ∈ news) (hi : IntsAre vs R) (h0 : decide (0 ≤ k ∧ k < 2 ^ 63) = true) (hx : R[k.toNat]? = some v) (h : ∀ t, Q (.int v t) s)
    (hs : subscripted slice false (.ref D) (.int k t) = operate [.ref D, .int k t] (getItem (.ref D) (.int k t)) := by with_unfolding_all rfl) :
    wpAny (model prog w) A (subscriptTail value slice (.ref D) (.int k t)) Q E s := by
  have h1 := of_decide_eq_true h0
  obtain ⟨hlt, e⟩ := List.getElem?_eq_some_iff.mp hx
  refine ksa_sub N hm hi h1.1 (by omega) h1.2 (fun t => ?_) hs
  rw [List.getD_eq_getElem?_getD, hx]
  exact h t
end
section
noncomputable def scaleV (w0 w1 p0 : Int) (opp : Bool) (m0 : Int) : Int :=
  if p0 = 0 ∧ w0 - w1 ≤ 825 then (if w0 < 1276 then 0 else if w1 ≤ 825 then 4 else 14)
  else if opp = true then (if w0 = 825 ∧ w1 = 825 then (if 18 + 4 * p0 < 64 then 18 + 4 * p0 else 64) else (if 22 + 3 * m0 < 64 then 22 + 3 * m0 else 64))
  else (if 36 + 7 * p0 < 64 then 36 + 7 * p0 else 64)
section
variable {w0 w1 p m : Int} {o : Bool}
theorem sc0 (h1 : p = 0) (h2 : w0 - w1 ≤ 825) (h3 : w0 < 1276) : 0 = scaleV w0 w1 p o m := by
  refine Eq.symm ?_
  unfold scaleV; rw [if_pos (show p = 0 ∧ w0 - w1 ≤ 825 from ⟨h1, h2⟩), if_pos h3]
theorem sc1 (h1 : p = 0) (h2 : w0 - w1 ≤ 825) (h3 : ¬ w0 < 1276) : (if decide (w1 ≤ 825) = true then 4 else 14) = scaleV w0 w1 p o m := by
  refine Eq.symm ?_
  unfold scaleV; rw [if_pos (show p = 0 ∧ w0 - w1 ≤ 825 from ⟨h1, h2⟩), if_neg h3]
  by_cases h : w1 ≤ 825 <;> simp [h]
theorem sc2 (h : ¬ (p = 0 ∧ w0 - w1 ≤ 825)) (ho : o = true) (a : w0 = 825) (b : w1 = 825) : (if 18 + 4 * p < 64 then 18 + 4 * p else 64) = scaleV w0 w1 p o m := by
  refine Eq.symm ?_
  unfold scaleV; rw [if_neg h, if_pos ho, if_pos (show w0 = 825 ∧ w1 = 825 from ⟨a, b⟩)]
theorem sc3 (h : ¬ (p = 0 ∧ w0 - w1 ≤ 825)) (ho : o = true) (a : ¬ (w0 = 825 ∧ w1 = 825)) : (if 22 + 3 * m < 64 then 22 + 3 * m else 64) = scaleV w0 w1 p o m := by
  refine Eq.symm ?_
  unfold scaleV; rw [if_neg h, if_pos ho, if_neg a]
theorem sc4 (h : ¬ (p = 0 ∧ w0 - w1 ≤ 825)) (ho : o = false) : (if 36 + 7 * p < 64 then 36 + 7 * p else 64) = scaleV w0 w1 p o m := by
  refine Eq.symm ?_
  unfold scaleV; rw [if_neg h, if_neg (show ¬ o = true from by rw [ho]; decide)]
theorem na {a b : Prop} (h : ¬ a) : ¬ (a ∧ b) := fun x => h x.1
theorem nb {a b : Prop} (h : ¬ b) : ¬ (a ∧ b) := fun x => h x.2
end
end
section

theorem scale_core (w : World) (ap : Addr) (f r : Nat) (K S : Nat → Nat) (sd : Nat) (c d : Nat) (t1 : Tok) (hc : (c = 0 ∧ d = 1) ∨ (c = 1 ∧ d = 0)) :
    Spec w 92 4 (fun h => PosAt h ap f r K S sd) [.ref ap, .int (c : Int) t1] (fun v tl => tl = [] ∧ ∃ t, v = .int (scaleV (worth 2 (rowc K S c)) (worth 2 (rowc K S d)) ((rowc K S c 1 : Nat) : Int) (oppV K S f (f * r)) ((pc (S c) : Nat) : Int)) t) := by
  refine' spec_of [(Str.ofString "pos", .ref ap), (Str.ofString "strong", .int (c : Int) t1)] ?h1 ?h2 ?h3 ?h4 ?h5 ?h6 ?h7 ?h8 ?h9 ?_
  case h1 => k_is
  case h2 => k_is
  case h3 => omega
  case h4 => rfl
  case h5 => exact locs rfl
  case h6 => rfl
  case h7 => rfl
  case h8 => rfl
  case h9 => decide
  intro mean mg mb dp un gd outer A₀ base g L h₁ tk s B F X N T hpre hd hu
  change Fr g L h₁ (fun y => List.lookup y [(Str.ofString "strong", Value.int (c : Int) t1), (Str.ofString "pos", Value.ref ap)]) at F
  refine letAE ?_
  intro A9 e9
  have sm9 := stMark s
  obtain ⟨P, hm, ok⟩ := id hpre
  have m1 := pm1 hm
  have m2 := pm2 hm
  have m3 := pm3 hm
  have m4 := pm4 hm
  have m5 := pm5 hm
  have m6 := pm6 hm
  have g0 := ok.geo
  have g1 := ok.kinds
  have g2 := ok.sides
  have i1 := ok.kv
  have i2 := ok.sv
  have l1 := ok.lk
  have l2 := ok.ls
  obtain ⟨t3, g3⟩ := ok.side
  obtain ⟨t4, g4⟩ := ok.size
  obtain ⟨t5, g5⟩ := ok.files
  obtain ⟨hf1, hf2⟩ := ok.hf
  obtain ⟨hr1, hr2⟩ := ok.hr
  clear hm
  have e0 : P.SI.getD (c : Int).toNat 0 = ((S c : Nat) : Int) := by rw [Int.toNat_natCast, ok.s c (by omega)]
  clear ok m3 m4 m5 g0 g1 g3 g4 g5 i1 l1 hf1 hf2 hr1 hr2
  rcases hc with ⟨rfl, rfl⟩ | ⟨rfl, rfl⟩
  · repeat' (first | (k_unfold; (try dsimp only)) | ((with_reducible show wpAny _ _ (subscriptTail (PySem.Expr.Name _ _) (PySem.Expr.Name _ _) (Value.ref _) (Value.int _ _)) _ _ _); first | with_reducible ((k_here; (with_reducible show wpAny _ _ (subscriptTail _ _ (Value.ref _) (Value.int _ _)) _ _ _); k_dflt (refine' row_item ?z_N ?z_m ?z_i ?z_a ?z_x ?_ ?z_s; (case z_N => k_asm); (case z_m => k_mem); (case z_i => with_reducible assumption); (case z_a => rfl); (case z_x => rfl); (case z_s => with_unfolding_all rfl); k_whole); intro _)) | with_reducible (((k_here; (with_reducible show wpAny _ _ (subscriptTail _ _ (Value.ref _) (Value.int _ _)) _ _ _); k_dflt (refine' made_item ?z_N ?z_m ?z_a ?z_x ?_ ?z_s; (case z_N => k_asm); (case z_m => k_mem); (case z_a => rfl); (case z_x => rfl); (case z_s => with_unfolding_all rfl); k_whole))))) | ((with_reducible show wpAny _ _ (subscriptTail (PySem.Expr.Name _ _) (PySem.Expr.BinOp _ _ _ _) (Value.ref _) (Value.int _ _)) _ _ _); first | with_reducible (((k_here; (with_reducible show wpAny _ _ (subscriptTail _ _ (Value.ref _) (Value.int _ _)) _ _ _); k_dflt (refine' made_item ?z_N ?z_m ?z_a ?z_x ?_ ?z_s; (case z_N => k_asm); (case z_m => k_mem); (case z_a => rfl); (case z_x => rfl); (case z_s => with_unfolding_all rfl); k_whole))))) | ((with_reducible show wpAny _ _ (call (Value.ref _) _) _ _ _); first | with_reducible ((k_here; (with_reducible show wpAny _ _ (call (Value.ref 85) _) _ _ _); k_dflt (refine' Spec.useE (has_opposite_bishops_spec _ _ _ _ _ _ _) ?z_B ?z_F ?z_X ?z_N ?z_T ?z_hk ?z_hd ?z_hu ?z_hp ?_; (((case z_F => k_asm); (case z_N => k_asm); (case z_B => k_asm); (case z_X => k_asm); (case z_T => k_asm); (case z_hk => rfl); (case z_hd => first | exact roomD (by with_reducible assumption) rfl | omega); (case z_hu => first | exact roomU (by with_reducible assumption) rfl | omega))); (case z_hp => exact PosAt.keeps (by assumption) (Fr.keep (by assumption)))); (intro h9z tk9z F9z N9z))) | with_reducible ((k_here; (with_reducible show wpAny _ _ (call (Value.ref 50) _) _ _ _); k_dflt (refine' Spec.useI (worth_of_spec _ _ _ _ _ _ ?z_c1 ?z_c2) ?z_B ?z_F ?z_X ?z_N ?z_T ?z_hk ?z_hd ?z_hu ?z_hp ?_; (case z_c1 => first | exact (rfl : _ = ((1 : Nat) : Int)) | exact (rfl : _ = ((2 : Nat) : Int))); (case z_c2 => decide); (((case z_F => k_asm); (case z_N => k_asm); (case z_B => k_asm); (case z_X => k_asm); (case z_T => k_asm); (case z_hk => rfl); (case z_hd => first | exact roomD (by with_reducible assumption) rfl | omega); (case z_hu => first | exact roomU (by with_reducible assumption) rfl | omega))); (case z_hp => exact RowAt.of (by k_asm) (by k_mem) (by assumption))); (intro t9z h9z tk9z F9z N9z))) | with_reducible ((k_here; (with_reducible show wpAny _ _ (call (Value.ref 43) _) _ _ _); k_dflt (refine' Spec.use (counts_of_spec _ _ _ _ _ _ _) ?z_B ?z_F ?z_X ?z_N ?z_T ?z_hk ?z_hd ?z_hu ?z_hp ?_; (((case z_F => k_asm); (case z_N => k_asm); (case z_B => k_asm); (case z_X => k_asm); (case z_T => k_asm); (case z_hk => rfl); (case z_hd => first | exact roomD (by with_reducible assumption) rfl | omega); (case z_hu => first | exact roomU (by with_reducible assumption) rfl | omega))); (case z_hp => exact PosAt.keeps (by assumption) (Fr.keep (by assumption)))); intro v9z tl9z h9z tk9z F9z N9z D9z o9z; clear D9z; k_dflt (obtain ⟨a8z, r0z, r1z, v0z, v1z, n8z, n0z, n1z, e8z, e9z, i0z, i1z⟩ := o9z); subst e8z; subst e9z; dsimp only [List.cons_append, List.nil_append] at N9z)) | with_reducible ((k_here; (with_reducible show wpAny _ _ (call (Value.ref 21) _) _ _ _); refine' Spec.useI (count_bits_at _ _ _ _ ?z_hx) ?z_B ?z_F ?z_X ?z_N ?z_T ?z_hk ?z_hd ?z_hu trivial ?_; (((case z_F => k_asm); (case z_N => k_asm); (case z_B => k_asm); (case z_X => k_asm); (case z_T => k_asm); (case z_hk => rfl); (case z_hd => first | exact roomD (by with_reducible assumption) rfl | omega); (case z_hu => first | exact roomU (by with_reducible assumption) rfl | omega))); (case z_hx => assumption); (intro t9z h9z tk9z F9z N9z)))) | ((with_reducible show wpAny _ _ (eval (PySem.Expr.Call _ _ _ _) _) _ _ _); first | with_reducible ((k_here; (with_reducible show wpAny _ _ (eval (PySem.Expr.Call (PySem.Expr.Name _ _) (PySem.Expr.Name _ _ :: _) [] _) _) _ _ _); k_dflt (rename Fr _ _ _ _ => F8z; refine' callV F8z ?z_X ?z_f ?z_k ?z_a rfl ?_; (case z_X => k_asm); (case z_f => walk_at "mine vv"); (case z_k => k_is); (case z_a => walk_at "mine av")))) | with_reducible (k_fold)) | ((with_reducible show wpAny _ _ (isTrue (PySem.Expr.Compare _ _ _ _) _ _) _ _ _); first | with_reducible (k_fold)) | ((with_reducible show wpAny _ _ (eval (PySem.Expr.Subscript _ _ _) _) _ _ _); first | with_reducible (k_fold)) | ((with_reducible show wpAny _ _ (eval (PySem.Expr.BinOp _ _ _ _) _) _ _ _); first | with_reducible (k_fold)) | ((with_reducible show wpAny _ _ (execs (_ :: _) _) _ _ _); first | with_reducible (first | k_fold | (rename StMark _ => mk9z; refine tok_gen mk9z ?_; intro k9z; (with_reducible refine wpAny_execs_cons ?_); try dsimp only))) | ((with_reducible show ite _ _ _); first | with_reducible (refine ifexp_const ?_)) | ((with_reducible show wpAny _ _ (subscriptTail _ _ _ _) _ _ _); first | with_reducible (((with_reducible show wpAny _ _ (subscriptTail _ (PySem.Expr.Constant (PySem.Const.int 0) _ _) (Value.ref _) (Value.int 0 _)) _ _ _); k_dflt (refine' topTup_K ?z_F ?z_X ?z_l ?z_a ?z_b ?z_d ?z_e ?_; (case z_F => k_asm); (case z_X => k_asm); (case z_l => k_is); (case z_a => decide); (case z_b => decide); (case z_d => rfl); (case z_e => rfl); k_whole))) | with_reducible (((with_reducible show wpAny _ _ (subscriptTail _ _ (Value.ref 29) (Value.int _ _)) _ _ _); (first | refine sub_norm 1 rfl ?_ | refine sub_norm 2 rfl ?_ | refine sub_norm 3 rfl ?_ | refine sub_norm 4 rfl ?_ | refine sub_norm 5 rfl ?_); k_dflt (refine' topList_K ?z_F ?z_X ?z_l ?z_a ?z_b ?z_d ?_; (case z_F => k_asm); (case z_X => k_asm); (case z_l => k_is); (case z_a => decide); (case z_b => decide); (case z_d => rfl); k_whole)))) | ((with_reducible show BodyQ _ _ _ _ _ _); first | with_reducible (refine Stop.of ?_)) | walk1 | dsimp only)
    all_goals ((((refine Stop.go ?_; (repeat (first | k_unfold | dsimp only)))); (refine BodyQ.int (by assumption) ?_); first | ((with_reducible refine sc0 ?_ ?_ ?_) <;> with_reducible assumption) | ((with_reducible refine sc1 ?_ ?_ ?_) <;> with_reducible assumption) | ((with_reducible refine sc2 ?_ ?_ ?_ ?_) <;> first | with_reducible assumption | (first | exact na (by with_reducible assumption) | exact nb (by with_reducible assumption) | (intro x9; omega))) | ((with_reducible refine sc3 ?_ ?_ ?_) <;> first | with_reducible assumption | (first | exact na (by with_reducible assumption) | exact nb (by with_reducible assumption) | (intro x9; omega))) | ((with_reducible refine sc4 ?_ ?_) <;> first | with_reducible assumption | (first | exact na (by with_reducible assumption) | exact nb (by with_reducible assumption) | (intro x9; omega)))))
  · repeat' (first | (k_unfold; (try dsimp only)) | ((with_reducible show wpAny _ _ (subscriptTail (PySem.Expr.Name _ _) (PySem.Expr.Name _ _) (Value.ref _) (Value.int _ _)) _ _ _); first | with_reducible ((k_here; (with_reducible show wpAny _ _ (subscriptTail _ _ (Value.ref _) (Value.int _ _)) _ _ _); k_dflt (refine' row_item ?z_N ?z_m ?z_i ?z_a ?z_x ?_ ?z_s; (case z_N => k_asm); (case z_m => k_mem); (case z_i => with_reducible assumption); (case z_a => rfl); (case z_x => rfl); (case z_s => with_unfolding_all rfl); k_whole); intro _)) | with_reducible (((k_here; (with_reducible show wpAny _ _ (subscriptTail _ _ (Value.ref _) (Value.int _ _)) _ _ _); k_dflt (refine' made_item ?z_N ?z_m ?z_a ?z_x ?_ ?z_s; (case z_N => k_asm); (case z_m => k_mem); (case z_a => rfl); (case z_x => rfl); (case z_s => with_unfolding_all rfl); k_whole))))) | ((with_reducible show wpAny _ _ (subscriptTail (PySem.Expr.Name _ _) (PySem.Expr.BinOp _ _ _ _) (Value.ref _) (Value.int _ _)) _ _ _); first | with_reducible (((k_here; (with_reducible show wpAny _ _ (subscriptTail _ _ (Value.ref _) (Value.int _ _)) _ _ _); k_dflt (refine' made_item ?z_N ?z_m ?z_a ?z_x ?_ ?z_s; (case z_N => k_asm); (case z_m => k_mem); (case z_a => rfl); (case z_x => rfl); (case z_s => with_unfolding_all rfl); k_whole))))) | ((with_reducible show wpAny _ _ (call (Value.ref _) _) _ _ _); first | with_reducible ((k_here; (with_reducible show wpAny _ _ (call (Value.ref 85) _) _ _ _); k_dflt (refine' Spec.useE (has_opposite_bishops_spec _ _ _ _ _ _ _) ?z_B ?z_F ?z_X ?z_N ?z_T ?z_hk ?z_hd ?z_hu ?z_hp ?_; (((case z_F => k_asm); (case z_N => k_asm); (case z_B => k_asm); (case z_X => k_asm); (case z_T => k_asm); (case z_hk => rfl); (case z_hd => first | exact roomD (by with_reducible assumption) rfl | omega); (case z_hu => first | exact roomU (by with_reducible assumption) rfl | omega))); (case z_hp => exact PosAt.keeps (by assumption) (Fr.keep (by assumption)))); (intro h9z tk9z F9z N9z))) | with_reducible ((k_here; (with_reducible show wpAny _ _ (call (Value.ref 50) _) _ _ _); k_dflt (refine' Spec.useI (worth_of_spec _ _ _ _ _ _ ?z_c1 ?z_c2) ?z_B ?z_F ?z_X ?z_N ?z_T ?z_hk ?z_hd ?z_hu ?z_hp ?_; (case z_c1 => first | exact (rfl : _ = ((1 : Nat) : Int)) | exact (rfl : _ = ((2 : Nat) : Int))); (case z_c2 => decide); (((case z_F => k_asm); (case z_N => k_asm); (case z_B => k_asm); (case z_X => k_asm); (case z_T => k_asm); (case z_hk => rfl); (case z_hd => first | exact roomD (by with_reducible assumption) rfl | omega); (case z_hu => first | exact roomU (by with_reducible assumption) rfl | omega))); (case z_hp => exact RowAt.of (by k_asm) (by k_mem) (by assumption))); (intro t9z h9z tk9z F9z N9z))) | with_reducible ((k_here; (with_reducible show wpAny _ _ (call (Value.ref 43) _) _ _ _); k_dflt (refine' Spec.use (counts_of_spec _ _ _ _ _ _ _) ?z_B ?z_F ?z_X ?z_N ?z_T ?z_hk ?z_hd ?z_hu ?z_hp ?_; (((case z_F => k_asm); (case z_N => k_asm); (case z_B => k_asm); (case z_X => k_asm); (case z_T => k_asm); (case z_hk => rfl); (case z_hd => first | exact roomD (by with_reducible assumption) rfl | omega); (case z_hu => first | exact roomU (by with_reducible assumption) rfl | omega))); (case z_hp => exact PosAt.keeps (by assumption) (Fr.keep (by assumption)))); intro v9z tl9z h9z tk9z F9z N9z D9z o9z; clear D9z; k_dflt (obtain ⟨a8z, r0z, r1z, v0z, v1z, n8z, n0z, n1z, e8z, e9z, i0z, i1z⟩ := o9z); subst e8z; subst e9z; dsimp only [List.cons_append, List.nil_append] at N9z)) | with_reducible ((k_here; (with_reducible show wpAny _ _ (call (Value.ref 21) _) _ _ _); refine' Spec.useI (count_bits_at _ _ _ _ ?z_hx) ?z_B ?z_F ?z_X ?z_N ?z_T ?z_hk ?z_hd ?z_hu trivial ?_; (((case z_F => k_asm); (case z_N => k_asm); (case z_B => k_asm); (case z_X => k_asm); (case z_T => k_asm); (case z_hk => rfl); (case z_hd => first | exact roomD (by with_reducible assumption) rfl | omega); (case z_hu => first | exact roomU (by with_reducible assumption) rfl | omega))); (case z_hx => assumption); (intro t9z h9z tk9z F9z N9z)))) | ((with_reducible show wpAny _ _ (eval (PySem.Expr.Call _ _ _ _) _) _ _ _); first | with_reducible ((k_here; (with_reducible show wpAny _ _ (eval (PySem.Expr.Call (PySem.Expr.Name _ _) (PySem.Expr.Name _ _ :: _) [] _) _) _ _ _); k_dflt (rename Fr _ _ _ _ => F8z; refine' callV F8z ?z_X ?z_f ?z_k ?z_a rfl ?_; (case z_X => k_asm); (case z_f => walk_at "mine vv"); (case z_k => k_is); (case z_a => walk_at "mine av")))) | with_reducible (k_fold)) | ((with_reducible show wpAny _ _ (isTrue (PySem.Expr.Compare _ _ _ _) _ _) _ _ _); first | with_reducible (k_fold)) | ((with_reducible show wpAny _ _ (eval (PySem.Expr.Subscript _ _ _) _) _ _ _); first | with_reducible (k_fold)) | ((with_reducible show wpAny _ _ (eval (PySem.Expr.BinOp _ _ _ _) _) _ _ _); first | with_reducible (k_fold)) | ((with_reducible show wpAny _ _ (execs (_ :: _) _) _ _ _); first | with_reducible (first | k_fold | (rename StMark _ => mk9z; refine tok_gen mk9z ?_; intro k9z; (with_reducible refine wpAny_execs_cons ?_); try dsimp only))) | ((with_reducible show ite _ _ _); first | with_reducible (refine ifexp_const ?_)) | ((with_reducible show wpAny _ _ (subscriptTail _ _ _ _) _ _ _); first | with_reducible (((with_reducible show wpAny _ _ (subscriptTail _ (PySem.Expr.Constant (PySem.Const.int 0) _ _) (Value.ref _) (Value.int 0 _)) _ _ _); k_dflt (refine' topTup_K ?z_F ?z_X ?z_l ?z_a ?z_b ?z_d ?z_e ?_; (case z_F => k_asm); (case z_X => k_asm); (case z_l => k_is); (case z_a => decide); (case z_b => decide); (case z_d => rfl); (case z_e => rfl); k_whole))) | with_reducible (((with_reducible show wpAny _ _ (subscriptTail _ _ (Value.ref 29) (Value.int _ _)) _ _ _); (first | refine sub_norm 1 rfl ?_ | refine sub_norm 2 rfl ?_ | refine sub_norm 3 rfl ?_ | refine sub_norm 4 rfl ?_ | refine sub_norm 5 rfl ?_); k_dflt (refine' topList_K ?z_F ?z_X ?z_l ?z_a ?z_b ?z_d ?_; (case z_F => k_asm); (case z_X => k_asm); (case z_l => k_is); (case z_a => decide); (case z_b => decide); (case z_d => rfl); k_whole)))) | ((with_reducible show BodyQ _ _ _ _ _ _); first | with_reducible (refine Stop.of ?_)) | walk1 | dsimp only)
    all_goals ((((refine Stop.go ?_; (repeat (first | k_unfold | dsimp only)))); (refine BodyQ.int (by assumption) ?_); first | ((with_reducible refine sc0 ?_ ?_ ?_) <;> with_reducible assumption) | ((with_reducible refine sc1 ?_ ?_ ?_) <;> with_reducible assumption) | ((with_reducible refine sc2 ?_ ?_ ?_ ?_) <;> first | with_reducible assumption | (first | exact na (by with_reducible assumption) | exact nb (by with_reducible assumption) | (intro x9; omega))) | ((with_reducible refine sc3 ?_ ?_ ?_) <;> first | with_reducible assumption | (first | exact na (by with_reducible assumption) | exact nb (by with_reducible assumption) | (intro x9; omega))) | ((with_reducible refine sc4 ?_ ?_) <;> first | with_reducible assumption | (first | exact na (by with_reducible assumption) | exact nb (by with_reducible assumption) | (intro x9; omega)))))

theorem scale_factor_spec (w : World) (ap : Addr) (f r : Nat) (K S : Nat → Nat) (sd : Nat) (c : Nat) (x : Int) (t1 : Tok) (hx : x = (c : Int)) (hc : c = 0 ∨ c = 1) :
    Spec w 92 4 (fun h => PosAt h ap f r K S sd) [.ref ap, .int x t1] (fun v tl => tl = [] ∧ ∃ t, v = .int (scaleV (worth 2 (rowc K S c)) (worth 2 (rowc K S (1 - c))) ((rowc K S c 1 : Nat) : Int) (oppV K S f (f * r)) ((pc (S c) : Nat) : Int)) t) := by
  subst hx
  rcases hc with rfl | rfl
  · exact scale_core w ap f r K S sd 0 1 t1 (.inl ⟨rfl, rfl⟩)
  · exact scale_core w ap f r K S sd 1 0 t1 (.inr ⟨rfl, rfl⟩)



end
-- part C11
example : True := by w_top off; trivial
section
theorem strong_side_spec (w : World) (x : Int) (t : Tok) : Spec w 99 1 (fun _ => True) [.int x t] (fun v tl => tl = [] ∧ ∃ t', v = .int (if 0 < x then 0 else 1) t') := by
  refine' spec_of [(Str.ofString "late", .int x t)] ?h1 ?h2 ?h3 ?h4 ?h5 ?h6 ?h7 ?h8 ?h9 ?_
  case h1 => k_is
  case h2 => k_is
  case h3 => omega
  case h4 => rfl
  case h5 => exact locs rfl
  case h6 => rfl
  case h7 => rfl
  case h8 => rfl
  case h9 => decide
  intro mean mg mb dp un gd outer A₀ base g L h₁ tk s B F X N T hpre hd hu
  change Fr g L h₁ (fun y => List.lookup y [(Str.ofString "late", Value.int x t)]) at F
  refine letAE ?_
  intro A9 e9
  have sm9 := stMark s
  repeat' (first | (k_unfold; (try dsimp only)) | ((with_reducible show wpAny _ _ (call (Value.ref _) _) _ _ _); first | with_reducible ((k_here; (with_reducible show wpAny _ _ (call (Value.ref 21) _) _ _ _); refine' Spec.useI (count_bits_at _ _ _ _ ?z_hx) ?z_B ?z_F ?z_X ?z_N ?z_T ?z_hk ?z_hd ?z_hu trivial ?_; (((case z_F => k_asm); (case z_N => k_asm); (case z_B => k_asm); (case z_X => k_asm); (case z_T => k_asm); (case z_hk => rfl); (case z_hd => first | exact roomD (by with_reducible assumption) rfl | omega); (case z_hu => first | exact roomU (by with_reducible assumption) rfl | omega))); (case z_hx => assumption); (intro t9z h9z tk9z F9z N9z)))) | ((with_reducible show wpAny _ _ (eval (PySem.Expr.Call _ _ _ _) _) _ _ _); first | with_reducible ((k_here; (with_reducible show wpAny _ _ (eval (PySem.Expr.Call (PySem.Expr.Name _ _) (PySem.Expr.Name _ _ :: _) [] _) _) _ _ _); k_dflt (rename Fr _ _ _ _ => F8z; refine' callV F8z ?z_X ?z_f ?z_k ?z_a rfl ?_; (case z_X => k_asm); (case z_f => walk_at "mine vv"); (case z_k => k_is); (case z_a => walk_at "mine av")))) | with_reducible (k_fold)) | ((with_reducible show wpAny _ _ (isTrue (PySem.Expr.Compare _ _ _ _) _ _) _ _ _); first | with_reducible (k_fold)) | ((with_reducible show wpAny _ _ (eval (PySem.Expr.Subscript _ _ _) _) _ _ _); first | with_reducible (k_fold)) | ((with_reducible show wpAny _ _ (execs (_ :: _) _) _ _ _); first | with_reducible (first | k_fold | (rename StMark _ => mk9z; refine tok_gen mk9z ?_; intro k9z; (with_reducible refine wpAny_execs_cons ?_); try dsimp only))) | ((with_reducible show BodyQ _ _ _ _ _ _); first | with_reducible (refine Stop.of ?_)) | walk1 | dsimp only)
  · ((refine Stop.go ?_; (repeat (first | k_unfold | dsimp only))))
    exact BodyQ.int (by assumption) (by rw [if_pos (by assumption)])
  · ((refine Stop.go ?_; (repeat (first | k_unfold | dsimp only))))
    exact BodyQ.int (by assumption) (by rw [if_neg (by assumption)])

theorem is_lone_king_spec (w : World) (ap : Addr) (f r : Nat) (K S : Nat → Nat) (sd : Nat) (c : Nat) (x : Int) (t1 : Tok) (hx : x = (c : Int)) (hc : c < 2) :
    Spec w 106 2 (fun h => PosAt h ap f r K S sd) [.ref ap, .int x t1] (fun v tl => tl = [] ∧ v = .bool (decide (pc (S c) = 1))) := by
  subst hx
  refine' spec_of [(Str.ofString "pos", .ref ap), (Str.ofString "side", .int (c : Int) t1)] ?h1 ?h2 ?h3 ?h4 ?h5 ?h6 ?h7 ?h8 ?h9 ?_
  case h1 => k_is
  case h2 => k_is
  case h3 => omega
  case h4 => rfl
  case h5 => exact locs rfl
  case h6 => rfl
  case h7 => rfl
  case h8 => rfl
  case h9 => decide
  intro mean mg mb dp un gd outer A₀ base g L h₁ tk s B F X N T hpre hd hu
  change Fr g L h₁ (fun y => List.lookup y [(Str.ofString "side", Value.int (c : Int) t1), (Str.ofString "pos", Value.ref ap)]) at F
  refine letAE ?_
  intro A9 e9
  have sm9 := stMark s
  obtain ⟨P, hm, ok⟩ := id hpre
  have m1 := pm1 hm
  have m2 := pm2 hm
  have m3 := pm3 hm
  have m4 := pm4 hm
  have m5 := pm5 hm
  have m6 := pm6 hm
  have g0 := ok.geo
  have g1 := ok.kinds
  have g2 := ok.sides
  have i1 := ok.kv
  have i2 := ok.sv
  have l1 := ok.lk
  have l2 := ok.ls
  obtain ⟨t3, g3⟩ := ok.side
  obtain ⟨t4, g4⟩ := ok.size
  obtain ⟨t5, g5⟩ := ok.files
  obtain ⟨hf1, hf2⟩ := ok.hf
  obtain ⟨hr1, hr2⟩ := ok.hr
  clear hm
  have e2 := ok.s c hc
  have e3 : P.SI.getD (c : Int).toNat 0 = ((S c : Nat) : Int) := by rw [Int.toNat_natCast, e2]
  repeat' (first | (k_unfold; (try dsimp only)) | ((with_reducible show wpAny _ _ (call (Value.ref _) _) _ _ _); first | with_reducible ((k_here; (with_reducible show wpAny _ _ (call (Value.ref 21) _) _ _ _); refine' Spec.useI (count_bits_at _ _ _ _ ?z_hx) ?z_B ?z_F ?z_X ?z_N ?z_T ?z_hk ?z_hd ?z_hu trivial ?_; (((case z_F => k_asm); (case z_N => k_asm); (case z_B => k_asm); (case z_X => k_asm); (case z_T => k_asm); (case z_hk => rfl); (case z_hd => first | exact roomD (by with_reducible assumption) rfl | omega); (case z_hu => first | exact roomU (by with_reducible assumption) rfl | omega))); (case z_hx => assumption); (intro t9z h9z tk9z F9z N9z)))) | ((with_reducible show wpAny _ _ (eval (PySem.Expr.Call _ _ _ _) _) _ _ _); first | with_reducible ((k_here; (with_reducible show wpAny _ _ (eval (PySem.Expr.Call (PySem.Expr.Name _ _) (PySem.Expr.Name _ _ :: _) [] _) _) _ _ _); k_dflt (rename Fr _ _ _ _ => F8z; refine' callV F8z ?z_X ?z_f ?z_k ?z_a rfl ?_; (case z_X => k_asm); (case z_f => walk_at "mine vv"); (case z_k => k_is); (case z_a => walk_at "mine av")))) | with_reducible (k_fold)) | ((with_reducible show wpAny _ _ (isTrue (PySem.Expr.Compare _ _ _ _) _ _) _ _ _); first | with_reducible (k_fold)) | ((with_reducible show wpAny _ _ (eval (PySem.Expr.Subscript _ _ _) _) _ _ _); first | with_reducible (k_fold)) | ((with_reducible show wpAny _ _ (execs (_ :: _) _) _ _ _); first | with_reducible (first | k_fold | (rename StMark _ => mk9z; refine tok_gen mk9z ?_; intro k9z; (with_reducible refine wpAny_execs_cons ?_); try dsimp only))) | ((with_reducible show BodyQ _ _ _ _ _ _); first | with_reducible (refine Stop.of ?_)) | walk1 | dsimp only)
  ((refine Stop.go ?_; (repeat (first | k_unfold | dsimp only))))
  refine BodyQ.bool (by assumption) ?_
  by_cases h : pc (S c) = 1
  · rw [h]; rfl
  · rw [decide_eq_false h]
    exact beq_eq_false_iff_ne.mpr (by omega)



end
-- part C12
example : True := by w_top off; trivial
section
noncomputable def BoardAt (h : Heap) (ab : Addr) (bs : List Int) : Prop := ∃ vs n, h.get? ab = some (listOf (List.toArray vs) n) ∧ IntsAre vs bs
theorem BoardAt.keeps {h h' : Heap} {ab : Addr} {bs : List Int} (x : BoardAt h ab bs) (hs : ∀ b o, h.get? b = some o → h'.get? b = some o) : BoardAt h' ab bs := by
  obtain ⟨vs, n, a, b⟩ := x
  exact ⟨vs, n, hs _ _ a, b⟩
theorem pos_open {goal : Prop} {h₀ h : Heap} {L : Addr} {news : List (Addr × Obj)} {ap dp ag dg ak as : Addr} {es eg : List DictEntry} {np ng ck cs : Nat} {kv sv : List Value} {f r : Nat} (N : News h₀ L h news)
    (h1 : (ap, instObj 144 dp) ∈ news) (h2 : (dp, dictOf es np) ∈ news) (h3 : (ag, instObj 123 dg) ∈ news) (h4 : (dg, dictOf eg ng) ∈ news) (h5 : (ak, listOf kv.toArray ck) ∈ news) (h6 : (as, listOf sv.toArray cs) ∈ news)
    (g0 : getL (PySem.Str.ofString "geo") es = some (some (.ref ag))) (g1 : getL (PySem.Str.ofString "kinds") es = some (some (.ref ak))) (g2 : getL (PySem.Str.ofString "sides") es = some (some (.ref as)))
    (g3 : ∃ t, getL (PySem.Str.ofString "side") es = some (some (.int 0 t))) (g4 : ∃ t, getL (PySem.Str.ofString "files") eg = some (some (.int (f : Int) t))) (g5 : ∃ t, getL (PySem.Str.ofString "size") eg = some (some (.int ((f : Int) * (r : Int)) t)))
    (hs : es.length ≤ 900)
    (hne : ap ≠ dp ∧ ap ≠ ag ∧ ap ≠ dg ∧ ap ≠ ak ∧ ap ≠ as ∧ dp ≠ ag ∧ dp ≠ dg ∧ dp ≠ ak ∧ dp ≠ as ∧ ag ≠ dg ∧ ag ≠ ak ∧ ag ≠ as ∧ dg ≠ ak ∧ dg ≠ as ∧ ak ≠ as)
    (k : ∀ (es eg : List DictEntry) (np ng ck cs : Nat), getL (PySem.Str.ofString "geo") es = some (some (.ref ag)) → getL (PySem.Str.ofString "kinds") es = some (some (.ref ak)) → getL (PySem.Str.ofString "sides") es = some (some (.ref as)) →
      (∃ t, getL (PySem.Str.ofString "side") es = some (some (.int 0 t))) → (∃ t, getL (PySem.Str.ofString "files") eg = some (some (.int (f : Int) t))) → (∃ t, getL (PySem.Str.ofString "size") eg = some (some (.int ((f : Int) * (r : Int)) t))) → es.length ≤ 900 →
      (ap ≠ dp ∧ ap ≠ ag ∧ ap ≠ dg ∧ ap ≠ ak ∧ ap ≠ as ∧ dp ≠ ag ∧ dp ≠ dg ∧ dp ≠ ak ∧ dp ≠ as ∧ ag ≠ dg ∧ ag ≠ ak ∧ ag ≠ as ∧ dg ≠ ak ∧ dg ≠ as ∧ ak ≠ as) →
      News h₀ L h [(ap, instObj 144 dp), (dp, dictOf es np), (ag, instObj 123 dg), (dg, dictOf eg ng), (ak, listOf kv.toArray ck), (as, listOf sv.toArray cs)] → goal) : goal := by
  refine k es eg np ng ck cs g0 g1 g2 g3 g4 g5 hs hne fun p hp => N p ?_
  simp only [List.mem_cons, List.not_mem_nil, or_false] at hp
  rcases hp with rfl | rfl | rfl | rfl | rfl | rfl <;> assumption

noncomputable abbrev PLed (ap dp ag dg ak as : Addr) (es eg : List DictEntry) (np ng ck cs : Nat) (c : List Value × List Value × List Int × List Int) : List (Addr × Obj) :=
  [(ap, instObj 144 dp), (dp, dictOf es np), (ag, instObj 123 dg), (dg, dictOf eg ng), (ak, listOf c.1.toArray ck), (as, listOf c.2.1.toArray cs)]
noncomputable abbrev PTurn (ap dp ag dg ak as : Addr) (es eg : List DictEntry) (np ng ck cs : Nat) (bs : List Int) (x : PySem.Str) (m₀ : PySem.Str → Option Value) (pre : List Int) : (PySem.Str → Option Value) → List (Addr × Obj) → Prop :=
  KstS (PLed ap dp ag dg ak as es eg np ng ck cs) (fun _ => []) (fun c => IntsAre c.1 c.2.2.1 ∧ IntsAre c.2.1 c.2.2.2) x [] m₀ (fun pre c => PInv (bs.take pre.length) c.2.2.1 c.2.2.2) pre
theorem kst_clean {x : PySem.Str} {o : PySem.Str → Option Value} {u m₀ : PySem.Str → Option Value} : (fun y => if y = x then o y else kstB (fun z => if ([] : List PySem.Str).contains z then u z else m₀ z) [] y) = fun y => if y = x then o y else m₀ y := by
  funext y
  simp [kstB]
section
variable {prog : Program} {w : World} {A : Around} {E : Value → Shared → Prop} {s : Shared} {env : Env} {h₀ : Heap} {x : PySem.Str} {body : List Stmt} {Q : Flow → Shared → Prop}
theorem pos_range {R : Addr} {t₀ u₀ v₀ : Tok} {m₀ : PySem.Str → Option Value} {ap dp ag dg ak as : Addr} {es eg : List DictEntry} {np ng ck cs : Nat} {kv sv : List Value} {KI SI : List Int} (bs : List Int)
    (hh : A.handled = none) (hr : IsRange s.heap R 0 (bs.length : Int) 1 t₀ u₀ v₀) (hb : bs.length ≤ 64) (F : Fr h₀ env.locals s.heap m₀)
    (N : News h₀ env.locals s.heap [(ap, instObj 144 dp), (dp, dictOf es np), (ag, instObj 123 dg), (dg, dictOf eg ng), (ak, listOf kv.toArray ck), (as, listOf sv.toArray cs)]) (i1 : IntsAre kv KI) (i2 : IntsAre sv SI) (hp : PInv [] KI SI)
    (turn : ∀ (kv sv : List Value) (KI SI : List Int) (pre : List Int) (k : Int) t h tk own, k = (pre.length : Int) → pre.length < bs.length → OwnOff own [ap, dp, ag, dg, ak, as] → IntsAre kv KI → IntsAre sv SI → PInv (bs.take pre.length) KI SI →
      Fr h₀ env.locals h (fun y => if y = x then some (.int k t) else m₀ y) → News h₀ env.locals h ([(ap, instObj 144 dp), (dp, dictOf es np), (ag, instObj 123 dg), (dg, dictOf eg ng), (ak, listOf kv.toArray ck), (as, listOf sv.toArray cs)] ++ own) →
      wpAny (model prog w) A (execs body env) (InvPostN h₀ env.locals (PTurn ap dp ag dg ak as es eg np ng ck cs bs x m₀ (pre ++ [k])) own [ap, dp, ag, dg, ak, as] { s with heap := h, toks := tk } Q) E { s with heap := h, toks := tk })
    (done : ∀ (kv sv : List Value) (KI SI : List Int) (u : PySem.Str → Option Value) h tk, IntsAre kv KI → IntsAre sv SI → PInv bs KI SI → Fr h₀ env.locals h (fun y => if y = x then u y else m₀ y) →
      News h₀ env.locals h [(ap, instObj 144 dp), (dp, dictOf es np), (ag, instObj 123 dg), (dg, dictOf eg ng), (ak, listOf kv.toArray ck), (as, listOf sv.toArray cs)] → Q .next { s with heap := h, toks := tk }) :
    wpAny (model prog w) A (pyIter (.ref R)) (fun it s₂ => LoopAtV prog w A h₀ env x body Q E it s₂) E s := by
  refine kst_range (n := bs.length) (PLed ap dp ag dg ak as es eg np ng ck cs) (fun _ => []) (fun c => IntsAre c.1 c.2.2.1 ∧ IntsAre c.2.1 c.2.2.2) [] (fun pre c => PInv (bs.take pre.length) c.2.2.1 c.2.2.2) (kv, sv, KI, SI) hh hr
    (small_one (by omega) (by omega) (by omega) (by omega)) (by rw [rangeSize_nat]; omega) F N ⟨i1, i2⟩ (fun _ h => nomatch h) (by simpa using hp) ?_ ?_
  · rintro ⟨kv, sv, KI, SI⟩ pre k t u h tk own hk hlt hoff ⟨j1, j2⟩ hP F2 N2
    rw [kst_clean] at F2
    exact turn kv sv KI SI pre k t h tk own (by omega) hlt hoff j1 j2 hP F2 N2
  · rintro ⟨kv, sv, KI, SI⟩ u h tk ⟨j1, j2⟩ hP F2 N2
    rw [kst_clean] at F2
    refine done kv sv KI SI u h tk j1 j2 ?_ F2 N2
    simpa [rangeKs_length] using hP
theorem pos_end {m₀ m' : PySem.Str → Option Value} {ap dp ag dg ak as : Addr} {es eg : List DictEntry} {np ng ck cs : Nat} {kv sv : List Value} {KI SI : List Int} {bs pre : List Int} {own news' : List (Addr × Obj)} {s₁ : Shared} {h' : Heap} {tk : Nat} {L : Addr}
    (F : Fr h₀ L h' m') (N : News h₀ L h' news') (hn : news' = [(ap, instObj 144 dp), (dp, dictOf es np), (ag, instObj 123 dg), (dg, dictOf eg ng), (ak, listOf kv.toArray ck), (as, listOf sv.toArray cs)] ++ own) (i1 : IntsAre kv KI) (i2 : IntsAre sv SI)
    (hr : ∀ z, z ≠ x → (∀ p ∈ ([] : List (PySem.Str × Value)), z ≠ p.1) → ([] : List PySem.Str).contains z = false → m' z = m₀ z) (hp : PInv (bs.take pre.length) KI SI) :
    InvEndN h₀ L (PTurn ap dp ag dg ak as es eg np ng ck cs bs x m₀ pre) own [ap, dp, ag, dg, ak, as] s₁ { s₁ with heap := h', toks := tk } := by
  subst hn
  exact kst_end (kv, sv, KI, SI) F N (fun p hp => List.mem_append_left _ hp) (fun p hp => List.mem_append_right _ hp) rfl ⟨i1, i2⟩ (fun _ h => nomatch h) hr hp
end

noncomputable abbrev Apart (ap dp ag dg ak as : Addr) : Prop := ap ≠ dp ∧ ap ≠ ag ∧ ap ≠ dg ∧ ap ≠ ak ∧ ap ≠ as ∧ dp ≠ ag ∧ dp ≠ dg ∧ dp ≠ ak ∧ dp ≠ as ∧ ag ≠ dg ∧ ag ≠ ak ∧ ag ≠ as ∧ dg ≠ ak ∧ dg ≠ as ∧ ak ≠ as
noncomputable def KB (bs : List Int) : Nat → Nat := fun k => bw (kindB bs k)
noncomputable def SB (bs : List Int) : Nat → Nat := fun c => bw (sideB bs c)
noncomputable abbrev PosOut (f r : Nat) (bs : List Int) (v : Value) (tl : List (Addr × Obj)) : Prop :=
  ∃ (ap dp ag dg ak as : Addr) (es eg : List DictEntry) (np ng ck cs : Nat) (kv sv : List Value) (KI SI : List Int), v = .ref ap ∧ tl = [(ap, instObj 144 dp), (dp, dictOf es np), (ag, instObj 123 dg), (dg, dictOf eg ng), (ak, listOf kv.toArray ck), (as, listOf sv.toArray cs)] ∧
    Apart ap dp ag dg ak as ∧ (PosRec.mk dp ag dg ak as es eg np ng ck cs kv sv KI SI).Ok f r (KB bs) (SB bs) 0
theorem pos_out {f r : Nat} {bs : List Int} {g : Heap} {L : Addr} {s : Shared} {h' : Heap} {tk' : Nat} {m' : PySem.Str → Option Value} {ap dp ag dg ak as : Addr} {es eg : List DictEntry} {np ng ck cs : Nat} {kv sv : List Value} {KI SI : List Int} (hb : Bd f r bs)
    (F : Fr g L h' m') (N : News g L h' [(ap, instObj 144 dp), (dp, dictOf es np), (ag, instObj 123 dg), (dg, dictOf eg ng), (ak, listOf kv.toArray ck), (as, listOf sv.toArray cs)]) (i1 : IntsAre kv KI) (i2 : IntsAre sv SI) (hP : PInv bs KI SI)
    (g0 : getL (PySem.Str.ofString "geo") es = some (some (.ref ag))) (g1 : getL (PySem.Str.ofString "kinds") es = some (some (.ref ak))) (g2 : getL (PySem.Str.ofString "sides") es = some (some (.ref as)))
    (g3 : ∃ t, getL (PySem.Str.ofString "side") es = some (some (.int 0 t))) (g4 : ∃ t, getL (PySem.Str.ofString "files") eg = some (some (.int (f : Int) t))) (g5 : ∃ t, getL (PySem.Str.ofString "size") eg = some (some (.int ((f : Int) * (r : Int)) t)))
    (hs : es.length ≤ 900) (hne : Apart ap dp ag dg ak as) : BodyQ (PosOut f r bs) g L s (.ret (.ref ap)) { s with heap := h', toks := tk' } := by
  refine BodyQ.mk _ F N (fun p hp => hp) ⟨ap, dp, ag, dg, ak, as, es, eg, np, ng, ck, cs, kv, sv, KI, SI, rfl, rfl, hne, ?_⟩
  exact ⟨g0, g1, g2, g3, g4, g5, i1, i2, hP.lk, hP.ls, hP.k, hP.s, ⟨hb.f1, hb.f2⟩, ⟨hb.r1, hb.r2⟩, hs⟩

theorem newList_drop {prog : Program} {w : World} {A : Around} {E : Value → Shared → Prop} {s : Shared} {h₀ : Heap} {L : Addr} {m : PySem.Str → Option Value} {news : List (Addr × Obj)} {vs : List Value} {Q : Value → Shared → Prop} (F : Fr h₀ L s.heap m) (N : News h₀ L s.heap news)
    (h : ∀ l h', Fr h₀ L h' m → News h₀ L h' news → Q (.ref l) { s with heap := h' }) (hsz : vs.length ≤ sizeLine) : wpAny (model prog w) A (newList vs) Q E s :=
  newList_K F N (fun l h' F' N' _ => h l h' F' fun q hq => N' q (.tail _ hq)) hsz
local macro_rules | `(tactic| k_ne) => `(tactic| walk_at "mine ne")
local macro_rules | `(tactic| k_lt $h) => `(tactic| replace $h := allLt_of $h)
local macro_rules | `(tactic| k_lt2 $h) => `(tactic| replace $h := allLt_up (by with_reducible assumption) $h)
theorem law_position_spec (w : World) (f r : Nat) (t1 t2 : Tok) (ab : Addr) (bs : List Int) (hb : Bd f r bs) :
    Spec w 167 3 (fun h => BoardAt h ab bs) [.int (f : Int) t1, .int (r : Int) t2, .ref ab] (PosOut f r bs) := by
  refine' spec_of [(Str.ofString "files", .int (f : Int) t1), (Str.ofString "ranks", .int (r : Int) t2), (Str.ofString "board", .ref ab)] ?h1 ?h2 ?h3 ?h4 ?h5 ?h6 ?h7 ?h8 ?h9 ?_
  case h1 => k_is
  case h2 => k_is
  case h3 => omega
  case h4 => rfl
  case h5 => exact locs rfl
  case h6 => rfl
  case h7 => rfl
  case h8 => rfl
  case h9 => decide
  intro mean mg mb dp un gd outer A₀ base g L h₁ tk s B F X N T hpre hd hu
  change Fr g L h₁ (fun y => List.lookup y [(Str.ofString "board", Value.ref ab), (Str.ofString "ranks", Value.int (r : Int) t2), (Str.ofString "files", Value.int (f : Int) t1)]) at F
  have sm9 := stMark s
  obtain ⟨vs, n, m1, i1⟩ := hpre
  have m2 := isList_of m1
  obtain ⟨hf1, hf2, hr1, hr2, hlen, hent, _, _⟩ := id hb
  obtain ⟨hc, hn1, hn2, hn3, hn4⟩ := fr_bounds hf1 hf2 hr1 hr2
  repeat' (first | (k_unfold; (try dsimp only)) | ((with_reducible show wpAny _ _ (exec (PySem.Stmt.For (PySem.Expr.Name _ _) (PySem.Expr.Call _ _ _ _) _ _ _) _) _ _ _); first | with_reducible ((k_here; (rename Fr _ _ _ _ => lF'z); (with_unfolding_all refine' For_invVF lF'z ?z_k1 ?z_k2 ?_; (case z_k1 => exact rfl); (case z_k2 => exact rfl); k_whole)))) | ((with_reducible show wpAny _ _ (pyIter (Value.ref _)) _ _ _); first | with_reducible (((with_reducible show wpAny _ _ (pyIter (Value.ref _)) (fun it s₂ => LoopAtV _ _ _ _ _ _ _ _ _ it s₂) _ _); refine Stop.of ?_))) | ((with_reducible show wpAny _ _ (eval (PySem.Expr.Call _ _ _ _) _) _ _ _); first | with_reducible ((k_here; (with_reducible show wpAny _ _ (eval (PySem.Expr.Call (PySem.Expr.Name _ _) (PySem.Expr.Name _ _ :: _) [] _) _) _ _ _); k_dflt (rename Fr _ _ _ _ => F8z; refine' callV F8z ?z_X ?z_f ?z_k ?z_a rfl ?_; (case z_X => k_asm); (case z_f => walk_at "mine vv"); (case z_k => k_is); (case z_a => walk_at "mine av")))) | with_reducible (k_fold)) | ((with_reducible show wpAny _ _ (eval (PySem.Expr.Subscript _ _ _) _) _ _ _); first | with_reducible (k_fold)) | ((with_reducible show wpAny _ _ (eval (PySem.Expr.BinOp _ _ _ _) _) _ _ _); first | with_reducible (k_fold)) | ((with_reducible show wpAny _ _ (execs (_ :: _) _) _ _ _); first | with_reducible (first | k_fold | (rename StMark _ => mk9z; refine tok_gen mk9z ?_; intro k9z; (with_reducible refine wpAny_execs_cons ?_); try dsimp only))) | ((with_reducible show wpAny _ _ (newList _) _ _ _); first | with_reducible ((k_here; (first | (with_reducible show wpAny _ _ (newList []) _ _ _) | (with_reducible show wpAny _ _ (newList [Value.ref _, Value.ref _]) _ _ _)); k_dflt (refine' newList_drop ?z_k1 ?z_k2 ?_ ?z_z; (case z_k1 => k_asm); (case z_k2 => k_asm); (case z_z => exact Nat.le_of_ble_eq_true rfl)); intro l'z h'z F'z N'z; (try k_sweep)))) | ((with_reducible show PySem.W.InvEndN _ _ _ _ _ _ _); first | with_reducible (refine Stop.of ?_)) | ((with_reducible show BodyQ _ _ _ _ _ _); first | with_reducible (refine Stop.of ?_)) | walk1 | dsimp only)
  refine Stop.go ?_
  rename IsRange _ _ _ _ _ _ _ _ => R9
  rename Fr _ _ _ _ => F9
  rename News _ _ _ _ => N9
  refine' pos_open (f := f) (r := r) N9 ?h1 ?h2 ?h3 ?h4 ?h5 ?h6 ?g0 ?g1 ?g2 ?g3 ?g4 ?g5 ?hs ?hne ?_
  case h1 => k_mem
  case h2 => k_mem
  case g0 => k_get
  case h3 => k_mem
  case h4 => k_mem
  case g1 => k_get
  case g2 => k_get
  case h5 => k_mem
  case h6 => k_mem
  case g3 => exact ⟨_, by k_get⟩
  case g4 => exact ⟨_, by k_get⟩
  case g5 => exact ⟨_, by k_get⟩
  case hs => simp
  case hne => refine ⟨?_, ?_, ?_, ?_, ?_, ?_, ?_, ?_, ?_, ?_, ?_, ?_, ?_, ?_, ?_⟩ <;> k_ne
  clear N9
  intro es eg np ng ck cs g0 g1 g2 g3 g4 g5 hs hne N9
  refine' pos_range (KI := List.replicate 7 0) (SI := List.replicate 2 0) bs rfl R9 (by omega) F9 N9 ?i1 ?i2 ?hp ?turn ?done
  case i1 => exact ints_rep7 7
  case i2 => exact .cons _ _ (.cons _ _ .nil)
  case hp => exact pinv_nil
  case turn =>
    clear N9 F9 R9
    intro kv sv KI SI pre k t h tk own hk hlt hoff j1 j2 hP F2 N2
    have lk := hP.lk
    have ls := hP.ls
    obtain ⟨hm1, hm2, hm3, hm4⟩ := ent_mods (hb.at k.toNat)
    have hk0 : 0 ≤ k := by omega
    have hk1 : k < 64 := by omega
    have hk2 : k < bs.length := by omega
    repeat' (first | (k_unfold; (try dsimp only)) | ((with_reducible show wpAny _ _ (exec (PySem.Stmt.For (PySem.Expr.Name _ _) (PySem.Expr.Call _ _ _ _) _ _ _) _) _ _ _); first | with_reducible ((k_here; (rename Fr _ _ _ _ => lF'z); (with_unfolding_all refine' For_invVF lF'z ?z_k1 ?z_k2 ?_; (case z_k1 => exact rfl); (case z_k2 => exact rfl); k_whole)))) | ((with_reducible show wpAny _ _ (pyIter (Value.ref _)) _ _ _); first | with_reducible (((with_reducible show wpAny _ _ (pyIter (Value.ref _)) (fun it s₂ => LoopAtV _ _ _ _ _ _ _ _ _ it s₂) _ _); refine Stop.of ?_))) | ((with_reducible show wpAny _ _ (eval (PySem.Expr.Call _ _ _ _) _) _ _ _); first | with_reducible ((k_here; (with_reducible show wpAny _ _ (eval (PySem.Expr.Call (PySem.Expr.Name _ _) (PySem.Expr.Name _ _ :: _) [] _) _) _ _ _); k_dflt (rename Fr _ _ _ _ => F8z; refine' callV F8z ?z_X ?z_f ?z_k ?z_a rfl ?_; (case z_X => k_asm); (case z_f => walk_at "mine vv"); (case z_k => k_is); (case z_a => walk_at "mine av")))) | with_reducible (k_fold)) | ((with_reducible show wpAny _ _ (eval (PySem.Expr.Subscript _ _ _) _) _ _ _); first | with_reducible (k_fold)) | ((with_reducible show wpAny _ _ (eval (PySem.Expr.BinOp _ _ _ _) _) _ _ _); first | with_reducible (k_fold)) | ((with_reducible show wpAny _ _ (execs (_ :: _) _) _ _ _); first | with_reducible (first | k_fold | (rename StMark _ => mk9z; refine tok_gen mk9z ?_; intro k9z; (with_reducible refine wpAny_execs_cons ?_); try dsimp only))) | ((with_reducible show wpAny _ _ (newList _) _ _ _); first | with_reducible ((k_here; (first | (with_reducible show wpAny _ _ (newList []) _ _ _) | (with_reducible show wpAny _ _ (newList [Value.ref _, Value.ref _]) _ _ _)); k_dflt (refine' newList_drop ?z_k1 ?z_k2 ?_ ?z_z; (case z_k1 => k_asm); (case z_k2 => k_asm); (case z_z => exact Nat.le_of_ble_eq_true rfl)); intro l'z h'z F'z N'z; (try k_sweep)))) | ((with_reducible show PySem.W.InvEndN _ _ _ _ _ _ _); first | with_reducible (refine Stop.of ?_)) | ((with_reducible show BodyQ _ _ _ _ _ _); first | with_reducible (refine Stop.of ?_)) | walk1 | dsimp only)
    · refine Stop.go ?_
      refine' pos_end (by assumption) (by assumption) rfl ?i1 ?i2 (by kst_same) ?hp
      case i1 => assumption
      case i2 => assumption
      case hp =>
        rw [List.length_append, List.length_singleton]
        exact pinv_step hlt hk hP (by assumption) hb.at
    · refine Stop.go ?_
      rename _ = (0 : Int) => he
      refine' pos_end (by assumption) (by assumption) rfl j1 j2 (by kst_same) ?hp
      rw [List.length_append, List.length_singleton]
      exact pinv_skip hlt hP (by rw [hk, Int.toNat_natCast] at he; exact he)
  case done =>
    clear N9 F9 R9
    intro kv sv KI SI u h tk j1 j2 hP F2 N2
    dsimp only
    repeat' (first | (k_unfold; (try dsimp only)) | ((with_reducible show wpAny _ _ (exec (PySem.Stmt.For (PySem.Expr.Name _ _) (PySem.Expr.Call _ _ _ _) _ _ _) _) _ _ _); first | with_reducible ((k_here; (rename Fr _ _ _ _ => lF'z); (with_unfolding_all refine' For_invVF lF'z ?z_k1 ?z_k2 ?_; (case z_k1 => exact rfl); (case z_k2 => exact rfl); k_whole)))) | ((with_reducible show wpAny _ _ (pyIter (Value.ref _)) _ _ _); first | with_reducible (((with_reducible show wpAny _ _ (pyIter (Value.ref _)) (fun it s₂ => LoopAtV _ _ _ _ _ _ _ _ _ it s₂) _ _); refine Stop.of ?_))) | ((with_reducible show wpAny _ _ (eval (PySem.Expr.Call _ _ _ _) _) _ _ _); first | with_reducible ((k_here; (with_reducible show wpAny _ _ (eval (PySem.Expr.Call (PySem.Expr.Name _ _) (PySem.Expr.Name _ _ :: _) [] _) _) _ _ _); k_dflt (rename Fr _ _ _ _ => F8z; refine' callV F8z ?z_X ?z_f ?z_k ?z_a rfl ?_; (case z_X => k_asm); (case z_f => walk_at "mine vv"); (case z_k => k_is); (case z_a => walk_at "mine av")))) | with_reducible (k_fold)) | ((with_reducible show wpAny _ _ (eval (PySem.Expr.Subscript _ _ _) _) _ _ _); first | with_reducible (k_fold)) | ((with_reducible show wpAny _ _ (eval (PySem.Expr.BinOp _ _ _ _) _) _ _ _); first | with_reducible (k_fold)) | ((with_reducible show wpAny _ _ (execs (_ :: _) _) _ _ _); first | with_reducible (first | k_fold | (rename StMark _ => mk9z; refine tok_gen mk9z ?_; intro k9z; (with_reducible refine wpAny_execs_cons ?_); try dsimp only))) | ((with_reducible show wpAny _ _ (newList _) _ _ _); first | with_reducible ((k_here; (first | (with_reducible show wpAny _ _ (newList []) _ _ _) | (with_reducible show wpAny _ _ (newList [Value.ref _, Value.ref _]) _ _ _)); k_dflt (refine' newList_drop ?z_k1 ?z_k2 ?_ ?z_z; (case z_k1 => k_asm); (case z_k2 => k_asm); (case z_z => exact Nat.le_of_ble_eq_true rfl)); intro l'z h'z F'z N'z; (try k_sweep)))) | ((with_reducible show PySem.W.InvEndN _ _ _ _ _ _ _); first | with_reducible (refine Stop.of ?_)) | ((with_reducible show BodyQ _ _ _ _ _ _); first | with_reducible (refine Stop.of ?_)) | walk1 | dsimp only)
    ((refine Stop.go ?_; (repeat (first | k_unfold | dsimp only))))
    exact pos_out hb (by assumption) (by assumption) j1 j2 hP g0 g1 g2 g3 g4 g5 hs hne



end
-- part C13
example : True := by w_top off; trivial
section
noncomputable def colL (f : Nat) (bs : List Int) (c : Nat) (n : Nat) : List Int := ((List.range n).filter fun s => decide (bs.getD s 0 % 8 = 3 ∧ bs.getD s 0 / 8 = (c : Int))).map fun s => (((s % f + s / f) % 2 : Nat) : Int)
noncomputable abbrev CLed (a a0 a1 : Addr) (n : Nat) (c : List Value × List Value × Nat × Nat) : List (Addr × Obj) := [(a, listOf #[.ref a0, .ref a1] n), (a1, listOf c.2.1.toArray c.2.2.2), (a0, listOf c.1.toArray c.2.2.1)]
noncomputable abbrev CP (f : Nat) (bs : List Int) (i : Nat) (c : List Value × List Value × Nat × Nat) : Prop := IntsAre c.1 (colL f bs 0 i) ∧ IntsAre c.2.1 (colL f bs 1 i)
theorem colL_succ (f : Nat) (bs : List Int) (c n : Nat) : colL f bs c (n + 1) = colL f bs c n ++ (if bs.getD n 0 % 8 = 3 ∧ bs.getD n 0 / 8 = (c : Int) then [(((n % f + n / f) % 2 : Nat) : Int)] else []) := by
  unfold colL
  rw [List.range_succ, List.filter_append, List.map_append]
  by_cases h : bs.getD n 0 % 8 = 3 ∧ bs.getD n 0 / 8 = (c : Int)
  · rw [if_pos h, List.filter_cons_of_pos (by simpa using h)]; rfl
  · rw [if_neg h, List.filter_cons_of_neg (by simpa using h)]; rfl
theorem colV {n f : Nat} {k : Int} (h : k = (n : Int)) : (Int.fmod k f + Int.fdiv k f).fmod 2 = (((n % f + n / f) % 2 : Nat) : Int) := by
  subst h
  rw [Int.fmod_eq_emod_of_nonneg _ (Int.natCast_nonneg f), Int.fdiv_eq_ediv_of_nonneg _ (Int.natCast_nonneg f), Int.fmod_eq_emod_of_nonneg _ (by decide)]
  rw [← Int.natCast_emod, ← Int.natCast_ediv, ← Int.natCast_add]
  rfl
theorem col_add {v : List Value} {f c n : Nat} {bs : List Int} {k : Int} {t : Tok} (j : IntsAre v (colL f bs c n)) (hk : k = (n : Int)) (h1 : (bs.getD k.toNat 0).fmod 8 = 3) (h2 : (bs.getD k.toNat 0).fdiv 8 = (c : Int)) :
    IntsAre (v ++ [.int ((Int.fmod k f + Int.fdiv k f).fmod 2) t]) (colL f bs c (n + 1)) := by
  rw [fmod8] at h1
  rw [fdiv8] at h2
  rw [colL_succ, colV hk]
  have hn : k.toNat = n := by lia
  rw [hn] at h1 h2
  rw [if_pos ⟨h1, h2⟩]
  exact IntsAre.append j (.cons _ _ .nil)
theorem col_keep {v : List Value} {f c n : Nat} {bs : List Int} {k : Int} (j : IntsAre v (colL f bs c n)) (hk : k = (n : Int)) (h : (bs.getD k.toNat 0).fmod 8 ≠ 3 ∨ (bs.getD k.toNat 0).fdiv 8 ≠ (c : Int)) :
    IntsAre v (colL f bs c (n + 1)) := by
  rw [fmod8, fdiv8] at h
  rw [colL_succ]
  have hn : k.toNat = n := by lia
  rw [hn] at h
  rw [if_neg (fun x => by rcases h with h | h; exact h x.1; exact h x.2), List.append_nil]
  exact j
section
variable {prog : Program} {w : World} {A : Around} {E : Value → Shared → Prop} {s : Shared} {env : Env} {h₀ : Heap} {x : PySem.Str} {body : List Stmt} {Q : Flow → Shared → Prop}
theorem col_range {R : Addr} {t₀ u₀ v₀ : Tok} {m₀ : PySem.Str → Option Value} {a a0 a1 : Addr} {n : Nat} (f : Nat) (bs : List Int)
    (hh : A.handled = none) (hr : IsRange s.heap R 0 (bs.length : Int) 1 t₀ u₀ v₀) (hn : bs.length ≤ 64) (F : Fr h₀ env.locals s.heap m₀) (N : News h₀ env.locals s.heap (CLed a a0 a1 n ([], [], 0, 0)))
    (turn : ∀ (c : List Value × List Value × Nat × Nat) (pre : List Int) (k : Int) t h tk own, k = (pre.length : Int) → pre.length < bs.length → OwnOff own [a, a1, a0] → CP f bs pre.length c →
      Fr h₀ env.locals h (fun y => if y = x then some (.int k t) else m₀ y) → News h₀ env.locals h (CLed a a0 a1 n c ++ own) →
      wpAny (model prog w) A (execs body env) (InvPostN h₀ env.locals (KstS (CLed a a0 a1 n) (fun _ => []) (fun _ => True) x [] m₀ (fun pre => CP f bs pre.length) (pre ++ [k])) own [a, a1, a0] { s with heap := h, toks := tk } Q) E { s with heap := h, toks := tk })
    (done : ∀ (c : List Value × List Value × Nat × Nat) (u : PySem.Str → Option Value) h tk, CP f bs bs.length c → Fr h₀ env.locals h (fun y => if y = x then u y else m₀ y) → News h₀ env.locals h (CLed a a0 a1 n c) → Q .next { s with heap := h, toks := tk }) :
    wpAny (model prog w) A (pyIter (.ref R)) (fun it s₂ => LoopAtV prog w A h₀ env x body Q E it s₂) E s :=
  range0 (n := bs.length) (CLed a a0 a1 n) (fun _ => True) (CP f bs) ([], [], 0, 0) hh hr rfl hn F N trivial ⟨.nil, .nil⟩ (fun c pre k t h tk own a b d _ e f g => turn c pre k t h tk own a b d e f g) (fun c u h tk _ e f g => done c u h tk e f g)
end
end
local macro_rules | `(tactic| units_room) => `(tactic| ((try dsimp +zetaDelta only [ktrTop]); omega))
section
theorem or_l {a b : Bool} (h : a = true) : a = (a || b) := by rw [h]; rfl
theorem or_r {a b : Bool} (h : a = false) : b = (a || b) := by rw [h]; rfl
theorem law_opposite_spec (w : World) (f r : Nat) (t1 : Tok) (ab : Addr) (bs : List Int) (hb : Bd f r bs) :
    Spec w 174 12 (fun h => BoardAt h ab bs) [.int (f : Int) t1, .ref ab] (fun v tl => tl = [] ∧ v = .bool ((decide (colL f bs 0 bs.length = [0]) && decide (colL f bs 1 bs.length = [1])) || (decide (colL f bs 0 bs.length = [1]) && decide (colL f bs 1 bs.length = [0])))) := by
  refine' spec_of [(Str.ofString "files", .int (f : Int) t1), (Str.ofString "board", .ref ab)] ?h1 ?h2 ?h3 ?h4 ?h5 ?h6 ?h7 ?h8 ?h9 ?_
  case h1 => k_is
  case h2 => k_is
  case h3 => omega
  case h4 => rfl
  case h5 => exact locs rfl
  case h6 => rfl
  case h7 => rfl
  case h8 => rfl
  case h9 => decide
  intro mean mg mb dp un gd outer A₀ base g L h₁ tk s B F X N T hpre hd hu
  change Fr g L h₁ (fun y => List.lookup y [(Str.ofString "board", Value.ref ab), (Str.ofString "files", Value.int (f : Int) t1)]) at F
  have sm9 := stMark s
  obtain ⟨vs, n, m1, i1⟩ := hpre
  have m2 := isList_of m1
  obtain ⟨hf1, hf2, hr1, hr2, hlen, hent, _, _⟩ := id hb
  obtain ⟨hc, hn1, hn2, hn3, hn4⟩ := fr_bounds hf1 hf2 hr1 hr2
  repeat' (first | (k_unfold; (try dsimp only)) | ((with_reducible show wpAny _ _ (exec (PySem.Stmt.For (PySem.Expr.Name _ _) (PySem.Expr.Call _ _ _ _) _ _ _) _) _ _ _); first | with_reducible ((k_here; (rename Fr _ _ _ _ => lF'z); (with_unfolding_all refine' For_invVF lF'z ?z_k1 ?z_k2 ?_; (case z_k1 => exact rfl); (case z_k2 => exact rfl); k_whole)))) | ((with_reducible show wpAny _ _ (subscriptTail (PySem.Expr.Name _ _) (PySem.Expr.BinOp _ _ _ _) (Value.ref _) (Value.int _ _)) _ _ _); first | with_reducible ((k_here; (with_reducible show wpAny _ _ (subscriptTail _ _ (Value.ref _) (Value.int (Int.fdiv _ _) _)) _ _ _); (first | refine sub_norm' 0 (by with_reducible assumption) ?_ | refine sub_norm' 1 (by with_reducible assumption) ?_); k_dflt (refine' made_item ?z_N ?z_m ?z_a ?z_x ?_ ?z_s; (case z_N => k_asm); (case z_m => k_mem); (case z_a => rfl); (case z_x => rfl); (case z_s => with_unfolding_all rfl); k_whole))) | with_reducible (((k_here; (with_reducible show wpAny _ _ (subscriptTail _ _ (Value.ref _) (Value.int _ _)) _ _ _); k_dflt (refine' made_item ?z_N ?z_m ?z_a ?z_x ?_ ?z_s; (case z_N => k_asm); (case z_m => k_mem); (case z_a => rfl); (case z_x => rfl); (case z_s => with_unfolding_all rfl); k_whole))))) | ((with_reducible show wpAny _ _ (pyIter (Value.ref _)) _ _ _); first | with_reducible (((with_reducible show wpAny _ _ (pyIter (Value.ref _)) (fun it s₂ => LoopAtV _ _ _ _ _ _ _ _ _ it s₂) _ _); refine Stop.of ?_))) | ((with_reducible show wpAny _ _ (eval (PySem.Expr.Call _ _ _ _) _) _ _ _); first | with_reducible ((k_here; (with_reducible show wpAny _ _ (eval (PySem.Expr.Call (PySem.Expr.Name _ _) (PySem.Expr.Name _ _ :: _) [] _) _) _ _ _); k_dflt (rename Fr _ _ _ _ => F8z; refine' callV F8z ?z_X ?z_f ?z_k ?z_a rfl ?_; (case z_X => k_asm); (case z_f => walk_at "mine vv"); (case z_k => k_is); (case z_a => walk_at "mine av")))) | with_reducible (k_fold)) | ((with_reducible show wpAny _ _ (isTrue (PySem.Expr.Compare _ _ _ _) _ _) _ _ _); first | with_reducible (k_fold)) | ((with_reducible show wpAny _ _ (call (Value.builtin "list.append") _) _ _ _); first | with_reducible ((k_here; (with_reducible show wpAny _ _ (call (Value.builtin _) [Value.ref _, _]) _ _ _); k_dflt (refine' append_K ?z_k1 ?z_k2 ?z_k3 ?_ ?z_z; (case z_k1 => k_asm); (case z_k2 => k_asm); (case z_k3 => k_upd); (case z_z => size_fits); k_whole); intro h'z F'z N'z; (try simp only [List.push_toArray, List.cons_append, List.nil_append] at N'z); (try k_sweep)))) | ((with_reducible show wpAny _ _ (eval (PySem.Expr.Subscript _ _ _) _) _ _ _); first | with_reducible (k_fold)) | ((with_reducible show wpAny _ _ (eval (PySem.Expr.BinOp _ _ _ _) _) _ _ _); first | with_reducible (k_fold)) | ((with_reducible show wpAny _ _ (execs (_ :: _) _) _ _ _); first | with_reducible (first | k_fold | (rename StMark _ => mk9z; refine tok_gen mk9z ?_; intro k9z; (with_reducible refine wpAny_execs_cons ?_); try dsimp only))) | ((with_reducible show PySem.W.InvEndN _ _ _ _ _ _ _); first | with_reducible (refine Stop.of ?_)) | ((with_reducible show BodyQ _ _ _ _ _ _); first | with_reducible (refine Stop.of ?_)) | walk1 | dsimp only)
  refine Stop.go ?_
  rename IsRange _ _ _ _ _ _ _ _ => R9
  rename Fr _ _ _ _ => F9
  rename News _ _ _ _ => N9
  refine' col_range f bs rfl R9 (by lia) F9 N9 ?turn ?done
  case turn =>
    clear N9 F9 R9
    rintro ⟨v0, v1, n0, n1⟩ pre k t h tk own hk hlt hoff ⟨j1, j2⟩ F2 N2
    dsimp only at j1 j2
    dsimp only [CLed] at N2
    have hk0 : 0 ≤ k := by lia
    have hk1 : k < 64 := by lia
    have hk2 : k < bs.length := by lia
    have hs0 := colL_succ f bs 0 pre.length
    have hs1 := colL_succ f bs 1 pre.length
    have hcv := colV (f := f) hk
    have hkn : k.toNat = pre.length := by lia
    have l0 : v0.length ≤ 64 := by rw [j1.length, colL, List.length_map]; have := List.length_filter_le (fun s => decide (bs.getD s 0 % 8 = 3 ∧ bs.getD s 0 / 8 = ((0 : Nat) : Int))) (List.range pre.length); simp only [List.length_range] at this; lia
    have l1 : v1.length ≤ 64 := by rw [j2.length, colL, List.length_map]; have := List.length_filter_le (fun s => decide (bs.getD s 0 % 8 = 3 ∧ bs.getD s 0 / 8 = ((1 : Nat) : Int))) (List.range pre.length); simp only [List.length_range] at this; lia
    have hx := hb.at k.toNat
    have hcase : ((bs.getD k.toNat 0).fmod 8 = 3 ∧ (bs.getD k.toNat 0).fdiv 8 = 0) ∨ ((bs.getD k.toNat 0).fmod 8 = 3 ∧ (bs.getD k.toNat 0).fdiv 8 = 1) ∨ (bs.getD k.toNat 0).fmod 8 ≠ 3 := by rw [fmod8, fdiv8]; lia
    rcases hcase with ⟨e1, e2⟩ | ⟨e1, e2⟩ | e1
    · repeat' (first | (k_unfold; (try dsimp only)) | ((with_reducible show wpAny _ _ (exec (PySem.Stmt.For (PySem.Expr.Name _ _) (PySem.Expr.Call _ _ _ _) _ _ _) _) _ _ _); first | with_reducible ((k_here; (rename Fr _ _ _ _ => lF'z); (with_unfolding_all refine' For_invVF lF'z ?z_k1 ?z_k2 ?_; (case z_k1 => exact rfl); (case z_k2 => exact rfl); k_whole)))) | ((with_reducible show wpAny _ _ (subscriptTail (PySem.Expr.Name _ _) (PySem.Expr.BinOp _ _ _ _) (Value.ref _) (Value.int _ _)) _ _ _); first | with_reducible ((k_here; (with_reducible show wpAny _ _ (subscriptTail _ _ (Value.ref _) (Value.int (Int.fdiv _ _) _)) _ _ _); (first | refine sub_norm' 0 (by with_reducible assumption) ?_ | refine sub_norm' 1 (by with_reducible assumption) ?_); k_dflt (refine' made_item ?z_N ?z_m ?z_a ?z_x ?_ ?z_s; (case z_N => k_asm); (case z_m => k_mem); (case z_a => rfl); (case z_x => rfl); (case z_s => with_unfolding_all rfl); k_whole))) | with_reducible (((k_here; (with_reducible show wpAny _ _ (subscriptTail _ _ (Value.ref _) (Value.int _ _)) _ _ _); k_dflt (refine' made_item ?z_N ?z_m ?z_a ?z_x ?_ ?z_s; (case z_N => k_asm); (case z_m => k_mem); (case z_a => rfl); (case z_x => rfl); (case z_s => with_unfolding_all rfl); k_whole))))) | ((with_reducible show wpAny _ _ (pyIter (Value.ref _)) _ _ _); first | with_reducible (((with_reducible show wpAny _ _ (pyIter (Value.ref _)) (fun it s₂ => LoopAtV _ _ _ _ _ _ _ _ _ it s₂) _ _); refine Stop.of ?_))) | ((with_reducible show wpAny _ _ (eval (PySem.Expr.Call _ _ _ _) _) _ _ _); first | with_reducible ((k_here; (with_reducible show wpAny _ _ (eval (PySem.Expr.Call (PySem.Expr.Name _ _) (PySem.Expr.Name _ _ :: _) [] _) _) _ _ _); k_dflt (rename Fr _ _ _ _ => F8z; refine' callV F8z ?z_X ?z_f ?z_k ?z_a rfl ?_; (case z_X => k_asm); (case z_f => walk_at "mine vv"); (case z_k => k_is); (case z_a => walk_at "mine av")))) | with_reducible (k_fold)) | ((with_reducible show wpAny _ _ (isTrue (PySem.Expr.Compare _ _ _ _) _ _) _ _ _); first | with_reducible (k_fold)) | ((with_reducible show wpAny _ _ (call (Value.builtin "list.append") _) _ _ _); first | with_reducible ((k_here; (with_reducible show wpAny _ _ (call (Value.builtin _) [Value.ref _, _]) _ _ _); k_dflt (refine' append_K ?z_k1 ?z_k2 ?z_k3 ?_ ?z_z; (case z_k1 => k_asm); (case z_k2 => k_asm); (case z_k3 => k_upd); (case z_z => size_fits); k_whole); intro h'z F'z N'z; (try simp only [List.push_toArray, List.cons_append, List.nil_append] at N'z); (try k_sweep)))) | ((with_reducible show wpAny _ _ (eval (PySem.Expr.Subscript _ _ _) _) _ _ _); first | with_reducible (k_fold)) | ((with_reducible show wpAny _ _ (eval (PySem.Expr.BinOp _ _ _ _) _) _ _ _); first | with_reducible (k_fold)) | ((with_reducible show wpAny _ _ (execs (_ :: _) _) _ _ _); first | with_reducible (first | k_fold | (rename StMark _ => mk9z; refine tok_gen mk9z ?_; intro k9z; (with_reducible refine wpAny_execs_cons ?_); try dsimp only))) | ((with_reducible show PySem.W.InvEndN _ _ _ _ _ _ _); first | with_reducible (refine Stop.of ?_)) | ((with_reducible show BodyQ _ _ _ _ _ _); first | with_reducible (refine Stop.of ?_)) | walk1 | dsimp only)
      · refine Stop.go ?_
        exact range0_end (_, _, _, _) (by assumption) (by assumption) rfl rfl trivial (by kst_same) ⟨col_add j1 hk e1 e2, col_keep j2 hk (.inr (by rw [e2]; decide))⟩
      · exact absurd e1 (by assumption)
    · repeat' (first | (k_unfold; (try dsimp only)) | ((with_reducible show wpAny _ _ (exec (PySem.Stmt.For (PySem.Expr.Name _ _) (PySem.Expr.Call _ _ _ _) _ _ _) _) _ _ _); first | with_reducible ((k_here; (rename Fr _ _ _ _ => lF'z); (with_unfolding_all refine' For_invVF lF'z ?z_k1 ?z_k2 ?_; (case z_k1 => exact rfl); (case z_k2 => exact rfl); k_whole)))) | ((with_reducible show wpAny _ _ (subscriptTail (PySem.Expr.Name _ _) (PySem.Expr.BinOp _ _ _ _) (Value.ref _) (Value.int _ _)) _ _ _); first | with_reducible ((k_here; (with_reducible show wpAny _ _ (subscriptTail _ _ (Value.ref _) (Value.int (Int.fdiv _ _) _)) _ _ _); (first | refine sub_norm' 0 (by with_reducible assumption) ?_ | refine sub_norm' 1 (by with_reducible assumption) ?_); k_dflt (refine' made_item ?z_N ?z_m ?z_a ?z_x ?_ ?z_s; (case z_N => k_asm); (case z_m => k_mem); (case z_a => rfl); (case z_x => rfl); (case z_s => with_unfolding_all rfl); k_whole))) | with_reducible (((k_here; (with_reducible show wpAny _ _ (subscriptTail _ _ (Value.ref _) (Value.int _ _)) _ _ _); k_dflt (refine' made_item ?z_N ?z_m ?z_a ?z_x ?_ ?z_s; (case z_N => k_asm); (case z_m => k_mem); (case z_a => rfl); (case z_x => rfl); (case z_s => with_unfolding_all rfl); k_whole))))) | ((with_reducible show wpAny _ _ (pyIter (Value.ref _)) _ _ _); first | with_reducible (((with_reducible show wpAny _ _ (pyIter (Value.ref _)) (fun it s₂ => LoopAtV _ _ _ _ _ _ _ _ _ it s₂) _ _); refine Stop.of ?_))) | ((with_reducible show wpAny _ _ (eval (PySem.Expr.Call _ _ _ _) _) _ _ _); first | with_reducible ((k_here; (with_reducible show wpAny _ _ (eval (PySem.Expr.Call (PySem.Expr.Name _ _) (PySem.Expr.Name _ _ :: _) [] _) _) _ _ _); k_dflt (rename Fr _ _ _ _ => F8z; refine' callV F8z ?z_X ?z_f ?z_k ?z_a rfl ?_; (case z_X => k_asm); (case z_f => walk_at "mine vv"); (case z_k => k_is); (case z_a => walk_at "mine av")))) | with_reducible (k_fold)) | ((with_reducible show wpAny _ _ (isTrue (PySem.Expr.Compare _ _ _ _) _ _) _ _ _); first | with_reducible (k_fold)) | ((with_reducible show wpAny _ _ (call (Value.builtin "list.append") _) _ _ _); first | with_reducible ((k_here; (with_reducible show wpAny _ _ (call (Value.builtin _) [Value.ref _, _]) _ _ _); k_dflt (refine' append_K ?z_k1 ?z_k2 ?z_k3 ?_ ?z_z; (case z_k1 => k_asm); (case z_k2 => k_asm); (case z_k3 => k_upd); (case z_z => size_fits); k_whole); intro h'z F'z N'z; (try simp only [List.push_toArray, List.cons_append, List.nil_append] at N'z); (try k_sweep)))) | ((with_reducible show wpAny _ _ (eval (PySem.Expr.Subscript _ _ _) _) _ _ _); first | with_reducible (k_fold)) | ((with_reducible show wpAny _ _ (eval (PySem.Expr.BinOp _ _ _ _) _) _ _ _); first | with_reducible (k_fold)) | ((with_reducible show wpAny _ _ (execs (_ :: _) _) _ _ _); first | with_reducible (first | k_fold | (rename StMark _ => mk9z; refine tok_gen mk9z ?_; intro k9z; (with_reducible refine wpAny_execs_cons ?_); try dsimp only))) | ((with_reducible show PySem.W.InvEndN _ _ _ _ _ _ _); first | with_reducible (refine Stop.of ?_)) | ((with_reducible show BodyQ _ _ _ _ _ _); first | with_reducible (refine Stop.of ?_)) | walk1 | dsimp only)
      · refine Stop.go ?_
        exact range0_end (_, _, _, _) (by assumption) (by assumption) rfl rfl trivial (by kst_same) ⟨col_keep j1 hk (.inr (by rw [e2]; decide)), col_add j2 hk e1 e2⟩
      · exact absurd e1 (by assumption)
    · repeat' (first | (k_unfold; (try dsimp only)) | ((with_reducible show wpAny _ _ (exec (PySem.Stmt.For (PySem.Expr.Name _ _) (PySem.Expr.Call _ _ _ _) _ _ _) _) _ _ _); first | with_reducible ((k_here; (rename Fr _ _ _ _ => lF'z); (with_unfolding_all refine' For_invVF lF'z ?z_k1 ?z_k2 ?_; (case z_k1 => exact rfl); (case z_k2 => exact rfl); k_whole)))) | ((with_reducible show wpAny _ _ (subscriptTail (PySem.Expr.Name _ _) (PySem.Expr.BinOp _ _ _ _) (Value.ref _) (Value.int _ _)) _ _ _); first | with_reducible ((k_here; (with_reducible show wpAny _ _ (subscriptTail _ _ (Value.ref _) (Value.int (Int.fdiv _ _) _)) _ _ _); (first | refine sub_norm' 0 (by with_reducible assumption) ?_ | refine sub_norm' 1 (by with_reducible assumption) ?_); k_dflt (refine' made_item ?z_N ?z_m ?z_a ?z_x ?_ ?z_s; (case z_N => k_asm); (case z_m => k_mem); (case z_a => rfl); (case z_x => rfl); (case z_s => with_unfolding_all rfl); k_whole))) | with_reducible (((k_here; (with_reducible show wpAny _ _ (subscriptTail _ _ (Value.ref _) (Value.int _ _)) _ _ _); k_dflt (refine' made_item ?z_N ?z_m ?z_a ?z_x ?_ ?z_s; (case z_N => k_asm); (case z_m => k_mem); (case z_a => rfl); (case z_x => rfl); (case z_s => with_unfolding_all rfl); k_whole))))) | ((with_reducible show wpAny _ _ (pyIter (Value.ref _)) _ _ _); first | with_reducible (((with_reducible show wpAny _ _ (pyIter (Value.ref _)) (fun it s₂ => LoopAtV _ _ _ _ _ _ _ _ _ it s₂) _ _); refine Stop.of ?_))) | ((with_reducible show wpAny _ _ (eval (PySem.Expr.Call _ _ _ _) _) _ _ _); first | with_reducible ((k_here; (with_reducible show wpAny _ _ (eval (PySem.Expr.Call (PySem.Expr.Name _ _) (PySem.Expr.Name _ _ :: _) [] _) _) _ _ _); k_dflt (rename Fr _ _ _ _ => F8z; refine' callV F8z ?z_X ?z_f ?z_k ?z_a rfl ?_; (case z_X => k_asm); (case z_f => walk_at "mine vv"); (case z_k => k_is); (case z_a => walk_at "mine av")))) | with_reducible (k_fold)) | ((with_reducible show wpAny _ _ (isTrue (PySem.Expr.Compare _ _ _ _) _ _) _ _ _); first | with_reducible (k_fold)) | ((with_reducible show wpAny _ _ (call (Value.builtin "list.append") _) _ _ _); first | with_reducible ((k_here; (with_reducible show wpAny _ _ (call (Value.builtin _) [Value.ref _, _]) _ _ _); k_dflt (refine' append_K ?z_k1 ?z_k2 ?z_k3 ?_ ?z_z; (case z_k1 => k_asm); (case z_k2 => k_asm); (case z_k3 => k_upd); (case z_z => size_fits); k_whole); intro h'z F'z N'z; (try simp only [List.push_toArray, List.cons_append, List.nil_append] at N'z); (try k_sweep)))) | ((with_reducible show wpAny _ _ (eval (PySem.Expr.Subscript _ _ _) _) _ _ _); first | with_reducible (k_fold)) | ((with_reducible show wpAny _ _ (eval (PySem.Expr.BinOp _ _ _ _) _) _ _ _); first | with_reducible (k_fold)) | ((with_reducible show wpAny _ _ (execs (_ :: _) _) _ _ _); first | with_reducible (first | k_fold | (rename StMark _ => mk9z; refine tok_gen mk9z ?_; intro k9z; (with_reducible refine wpAny_execs_cons ?_); try dsimp only))) | ((with_reducible show PySem.W.InvEndN _ _ _ _ _ _ _); first | with_reducible (refine Stop.of ?_)) | ((with_reducible show BodyQ _ _ _ _ _ _); first | with_reducible (refine Stop.of ?_)) | walk1 | dsimp only)
      · exact absurd (by assumption) e1
      · exact absurd (by assumption) e1
      · refine Stop.go ?_
        exact range0_end (_, _, _, _) (by assumption) (by assumption) rfl rfl trivial (by kst_same) ⟨col_keep j1 hk (.inl e1), col_keep j2 hk (.inl e1)⟩
  case done =>
    clear N9 F9 R9
    rintro ⟨v0, v1, n0, n1⟩ u h tk ⟨j1, j2⟩ F2 N2
    dsimp only at j1 j2
    dsimp only [CLed] at N2
    dsimp only
    repeat' (first | (k_unfold; (try dsimp only)) | ((with_reducible show wpAny _ _ (exec (PySem.Stmt.For (PySem.Expr.Name _ _) (PySem.Expr.Call _ _ _ _) _ _ _) _) _ _ _); first | with_reducible ((k_here; (rename Fr _ _ _ _ => lF'z); (with_unfolding_all refine' For_invVF lF'z ?z_k1 ?z_k2 ?_; (case z_k1 => exact rfl); (case z_k2 => exact rfl); k_whole)))) | ((with_reducible show wpAny _ _ (subscriptTail (PySem.Expr.Name _ _) (PySem.Expr.BinOp _ _ _ _) (Value.ref _) (Value.int _ _)) _ _ _); first | with_reducible ((k_here; (with_reducible show wpAny _ _ (subscriptTail _ _ (Value.ref _) (Value.int (Int.fdiv _ _) _)) _ _ _); (first | refine sub_norm' 0 (by with_reducible assumption) ?_ | refine sub_norm' 1 (by with_reducible assumption) ?_); k_dflt (refine' made_item ?z_N ?z_m ?z_a ?z_x ?_ ?z_s; (case z_N => k_asm); (case z_m => k_mem); (case z_a => rfl); (case z_x => rfl); (case z_s => with_unfolding_all rfl); k_whole))) | with_reducible (((k_here; (with_reducible show wpAny _ _ (subscriptTail _ _ (Value.ref _) (Value.int _ _)) _ _ _); k_dflt (refine' made_item ?z_N ?z_m ?z_a ?z_x ?_ ?z_s; (case z_N => k_asm); (case z_m => k_mem); (case z_a => rfl); (case z_x => rfl); (case z_s => with_unfolding_all rfl); k_whole))))) | ((with_reducible show wpAny _ _ (pyIter (Value.ref _)) _ _ _); first | with_reducible (((with_reducible show wpAny _ _ (pyIter (Value.ref _)) (fun it s₂ => LoopAtV _ _ _ _ _ _ _ _ _ it s₂) _ _); refine Stop.of ?_))) | ((with_reducible show wpAny _ _ (eval (PySem.Expr.Call _ _ _ _) _) _ _ _); first | with_reducible ((k_here; (with_reducible show wpAny _ _ (eval (PySem.Expr.Call (PySem.Expr.Name _ _) (PySem.Expr.Name _ _ :: _) [] _) _) _ _ _); k_dflt (rename Fr _ _ _ _ => F8z; refine' callV F8z ?z_X ?z_f ?z_k ?z_a rfl ?_; (case z_X => k_asm); (case z_f => walk_at "mine vv"); (case z_k => k_is); (case z_a => walk_at "mine av")))) | with_reducible (k_fold)) | ((with_reducible show wpAny _ _ (isTrue (PySem.Expr.Compare _ _ _ _) _ _) _ _ _); first | with_reducible (k_fold)) | ((with_reducible show wpAny _ _ (call (Value.builtin "list.append") _) _ _ _); first | with_reducible ((k_here; (with_reducible show wpAny _ _ (call (Value.builtin _) [Value.ref _, _]) _ _ _); k_dflt (refine' append_K ?z_k1 ?z_k2 ?z_k3 ?_ ?z_z; (case z_k1 => k_asm); (case z_k2 => k_asm); (case z_k3 => k_upd); (case z_z => size_fits); k_whole); intro h'z F'z N'z; (try simp only [List.push_toArray, List.cons_append, List.nil_append] at N'z); (try k_sweep)))) | ((with_reducible show wpAny _ _ (eval (PySem.Expr.Subscript _ _ _) _) _ _ _); first | with_reducible (k_fold)) | ((with_reducible show wpAny _ _ (eval (PySem.Expr.BinOp _ _ _ _) _) _ _ _); first | with_reducible (k_fold)) | ((with_reducible show wpAny _ _ (execs (_ :: _) _) _ _ _); first | with_reducible (first | k_fold | (rename StMark _ => mk9z; refine tok_gen mk9z ?_; intro k9z; (with_reducible refine wpAny_execs_cons ?_); try dsimp only))) | ((with_reducible show PySem.W.InvEndN _ _ _ _ _ _ _); first | with_reducible (refine Stop.of ?_)) | ((with_reducible show BodyQ _ _ _ _ _ _); first | with_reducible (refine Stop.of ?_)) | walk1 | dsimp only)
    · ((refine Stop.go ?_; (repeat (first | k_unfold | dsimp only))))
      exact BodyQ.bool (by assumption) (or_l (by assumption))
    · ((refine Stop.go ?_; (repeat (first | k_unfold | dsimp only))))
      exact BodyQ.bool (by assumption) (or_r (by assumption))



end
-- part C14
example : True := by w_top off; trivial
section
structure MenAt (h : Heap) (am : Addr) (M0 M1 : List Int) : Prop where
  at_ : ∃ (r0 r1 : Addr) (n n0 n1 : Nat) (v0 v1 : List Value), h.get? am = some (listOf #[.ref r0, .ref r1] n) ∧ h.get? r0 = some (listOf (List.toArray v0) n0) ∧ h.get? r1 = some (listOf (List.toArray v1) n1) ∧ IntsAre v0 M0 ∧ IntsAre v1 M1
structure HvAt (h : Heap) (ah : Addr) (a b : Int) : Prop where
  at_ : ∃ (n : Nat) (t1 t2 : Tok), h.get? ah = some (listOf #[.int a t1, .int b t2] n)
theorem MenAt.keeps {h h' : Heap} {am : Addr} {M0 M1 : List Int} (x : MenAt h am M0 M1) (hs : ∀ b o, h.get? b = some o → h'.get? b = some o) : MenAt h' am M0 M1 := by
  obtain ⟨r0, r1, n, n0, n1, v0, v1, a, b, c, d⟩ := x.at_
  exact ⟨r0, r1, n, n0, n1, v0, v1, hs _ _ a, hs _ _ b, hs _ _ c, d⟩
theorem HvAt.keeps {h h' : Heap} {ah : Addr} {a b : Int} (x : HvAt h ah a b) (hs : ∀ b o, h.get? b = some o → h'.get? b = some o) : HvAt h' ah a b := by
  obtain ⟨n, t1, t2, e⟩ := x.at_
  exact ⟨n, t1, t2, hs _ _ e⟩
theorem base_item {prog : Program} {w : World} {A : Around} {E : Value → Shared → Prop} {s : Shared} {h₀ : Heap} {L D : Addr} {m : PySem.Str → Option Value} {vs : List Value} {k : Int} {v : Value} {t : Tok} {value slice : PySem.Expr} {Q : Value → Shared → Prop} (F : Fr h₀ L s.heap m) (hm : h₀.IsList D vs.toArray) (h0 : decide (0 ≤ k ∧ k < 2 ^ 63) = true) (hx : vs[k.toNat]? = some v) (h : Q v s)
    (hs : subscripted slice false (.ref D) (.int k t) = operate [.ref D, .int k t] (getItem (.ref D) (.int k t)) := by with_unfolding_all rfl) :
    wpAny (model prog w) A (subscriptTail value slice (.ref D) (.int k t)) Q E s := by
  have hl : s.heap.IsList D vs.toArray := hm.at fun o e => F.keep D o e
  have h1 := of_decide_eq_true h0
  exact tail_any hl.typeIs slot_list_getitem.lookup (wpAny_getItem_list hl h1.1 h1.2 (by simpa using hx) h) hs
theorem baseMethod {prog : Program} {w : World} {A : Around} {E : Value → Shared → Prop} {s : Shared} {h₀ : Heap} {L D : Addr} {m : PySem.Str → Option Value} {its : Array Value} {n : Nat} {name : PySem.Str} {id : String} {pl : Sem Bool} {Q : Value × List Value → Shared → Prop} (F : Fr h₀ L s.heap m) (hm : h₀.get? D = some (listOf its n)) (slot : Slot "list" name id) (hty : typeOf (.builtin id) = pure (.type "method_descriptor"))
    (h : Q (.builtin id, [.ref D]) s) : wpAny (model prog w) A (getMethod (.ref D) name pl) Q E s :=
  getMethod_builtin ⟨_, F.keep _ _ hm, rfl⟩ PySem.F.plainAttrs_list slot hty (fun a e => by cases e; exact ⟨_, F.keep _ _ hm, rfl⟩) h
section
variable {a b p m : Int} {o : Bool} {M0 M1 ns' : List Int}
theorem lf0 (h1 : p = 0) (h2 : a ≤ b + 825) (h3 : a < 1276) : 0 = scaleV a b p o m := sc0 h1 (by omega) h3
theorem lf1 (h1 : p = 0) (h2 : a ≤ b + 825) (h3 : ¬ a < 1276) : (if decide (825 < b) = true then 14 else 4) = scaleV a b p o m := by
  rw [← sc1 h1 (by omega) h3]
  by_cases h : 825 < b
  · rw [if_pos (by simpa using h), if_neg (by simp; omega)]
  · rw [if_neg (by simpa using h), if_pos (by simp; omega)]
theorem lfn (h : ¬ (p = 0 ∧ a ≤ b + 825)) : ¬ (p = 0 ∧ a - b ≤ 825) := fun x => h ⟨x.1, by omega⟩
noncomputable abbrev LQ (M0 M1 : List Int) (o : Bool) (a b : Int) : Prop := o = true → ∀ ns' : List Int, ns'.Perm (M0 ++ M1) → ns'.Pairwise (· ≤ ·) → ((ns'.drop (ns'.length - 4) = [3, 3, 6, 6] ∧ ((M0.count 2 : Nat) : Int) + ((M1.count 2 : Nat) : Int) = 0) ↔ (a = 825 ∧ b = 825))
theorem lf3 (h : ¬ (p = 0 ∧ a ≤ b + 825)) (ho : o = true) (hq : LQ M0 M1 o a b) (hP : ns'.Perm (M0 ++ M1)) (hS : ns'.Pairwise (· ≤ ·)) (hd : ns'.drop (ns'.length - 4) = [3, 3, 6, 6]) (hc : ((M0.count 2 : Nat) : Int) + ((M1.count 2 : Nat) : Int) = 0) :
    (if 18 + 4 * p < 64 then 18 + 4 * p else 64) = scaleV a b p o m := sc2 (lfn h) ho ((hq ho ns' hP hS).mp ⟨hd, hc⟩).1 ((hq ho ns' hP hS).mp ⟨hd, hc⟩).2
theorem lf4 (h : ¬ (p = 0 ∧ a ≤ b + 825)) (ho : o = true) (hq : LQ M0 M1 o a b) (hP : ns'.Perm (M0 ++ M1)) (hS : ns'.Pairwise (· ≤ ·)) (hc : ((M0.count 2 : Nat) : Int) + ((M1.count 2 : Nat) : Int) ≠ 0) :
    (if 22 + 3 * m < 64 then 22 + 3 * m else 64) = scaleV a b p o m := sc3 (lfn h) ho fun x => hc ((hq ho ns' hP hS).mpr x).2
theorem lf5 (h : ¬ (p = 0 ∧ a ≤ b + 825)) (ho : o = true) (hq : LQ M0 M1 o a b) (hP : ns'.Perm (M0 ++ M1)) (hS : ns'.Pairwise (· ≤ ·)) (hd : ¬ ns'.drop (ns'.length - 4) = [3, 3, 6, 6]) :
    (if 22 + 3 * m < 64 then 22 + 3 * m else 64) = scaleV a b p o m := sc3 (lfn h) ho fun x => hd ((hq ho ns' hP hS).mpr x).1
theorem lf6 (h : ¬ (p = 0 ∧ a ≤ b + 825)) (ho : o = false) : (if 36 + 7 * p < 64 then 36 + 7 * p else 64) = scaleV a b p o m := sc4 (lfn h) ho
end
end
section
theorem law_factor_spec (w : World) (am ah : Addr) (M0 M1 : List Int) (a b : Int) (c : Nat) (opp : Bool) (x : Int) (t1 : Tok) (hx : x = (c : Int)) (hlen : M0.length + M1.length ≤ 64) (Mo : List Int) (ao af : Int) (hc : (c = 0 ∧ Mo = M0 ∧ ao = a ∧ af = b) ∨ (c = 1 ∧ Mo = M1 ∧ ao = b ∧ af = a)) (hq : LQ M0 M1 opp ao af) :
    Spec w 181 12 (fun h => MenAt h am M0 M1 ∧ HvAt h ah a b) [.ref am, .ref ah, .int x t1, .bool opp] (fun v tl => tl = [] ∧ ∃ t, v = .int (scaleV ao af ((Mo.count 1 : Nat) : Int) opp ((Mo.length : Nat) : Int)) t) := by
  subst hx
  refine' spec_of [(Str.ofString "men", .ref am), (Str.ofString "heavy", .ref ah), (Str.ofString "side", .int (c : Int) t1), (Str.ofString "opposite", .bool opp)] ?h1 ?h2 ?h3 ?h4 ?h5 ?h6 ?h7 ?h8 ?h9 ?_
  case h1 => k_is
  case h2 => k_is
  case h3 => omega
  case h4 => rfl
  case h5 => exact locs rfl
  case h6 => rfl
  case h7 => rfl
  case h8 => rfl
  case h9 => decide
  intro mean mg mb dp un gd outer A₀ base g L h₁ tk s B F X N T hpre hd hu
  change Fr g L h₁ (fun y => List.lookup y [(Str.ofString "opposite", Value.bool opp), (Str.ofString "side", Value.int (c : Int) t1), (Str.ofString "heavy", Value.ref ah), (Str.ofString "men", Value.ref am)]) at F
  refine letAE ?_
  intro A9 e9
  have sm9 := stMark s
  obtain ⟨x1, x2⟩ := hpre
  obtain ⟨r0, r1, n, n0, n1, v0, v1, m1, m2, m3, i1, i2⟩ := x1.at_
  obtain ⟨n2, t2, t3, m4⟩ := x2.at_
  have j1 := isList_of (vs := [.ref r0, .ref r1]) m1
  have j2 := isList_of m2
  have j3 := isList_of m3
  have j4 := isList_of (vs := [.int a t2, .int b t3]) m4
  rcases hc with ⟨rfl, rfl, rfl, rfl⟩ | ⟨rfl, rfl, rfl, rfl⟩
  · repeat' (first | (k_unfold; (try dsimp only)) | ((with_reducible show wpAny _ _ (subscriptTail (PySem.Expr.Name _ _) (PySem.Expr.Constant _ _ _) (Value.ref _) (Value.int _ _)) _ _ _); first | with_reducible (((with_reducible show wpAny _ _ (subscriptTail _ _ (Value.ref 29) (Value.int _ _)) _ _ _); k_dflt (refine' topList_K ?z_F ?z_X ?z_l ?z_a ?z_b ?z_d ?_; (case z_F => k_asm); (case z_X => k_asm); (case z_l => k_is); (case z_a => decide); (case z_b => decide); (case z_d => rfl); k_whole))) | with_reducible (((k_here; (with_reducible show wpAny _ _ (subscriptTail _ _ (Value.ref _) (Value.int _ _)) _ _ _); k_dflt (refine' base_item ?z_F ?z_m ?z_a ?z_x ?_ ?z_s; (case z_F => k_asm); (case z_m => with_reducible assumption); (case z_a => rfl); (case z_x => rfl); (case z_s => with_unfolding_all rfl); k_whole))))) | ((with_reducible show wpAny _ _ (subscriptTail (PySem.Expr.Name _ _) (PySem.Expr.BinOp _ _ _ _) (Value.ref _) (Value.int _ _)) _ _ _); first | with_reducible (((k_here; (with_reducible show wpAny _ _ (subscriptTail _ _ (Value.ref _) (Value.int _ _)) _ _ _); k_dflt (refine' base_item ?z_F ?z_m ?z_a ?z_x ?_ ?z_s; (case z_F => k_asm); (case z_m => with_reducible assumption); (case z_a => rfl); (case z_x => rfl); (case z_s => with_unfolding_all rfl); k_whole))))) | ((with_reducible show wpAny _ _ (subscriptTail (PySem.Expr.Name _ _) (PySem.Expr.Name _ _) (Value.ref _) (Value.int _ _)) _ _ _); first | with_reducible (((k_here; (with_reducible show wpAny _ _ (subscriptTail _ _ (Value.ref _) (Value.int _ _)) _ _ _); k_dflt (refine' base_item ?z_F ?z_m ?z_a ?z_x ?_ ?z_s; (case z_F => k_asm); (case z_m => with_reducible assumption); (case z_a => rfl); (case z_x => rfl); (case z_s => with_unfolding_all rfl); k_whole))))) | ((with_reducible show wpAny _ _ (call (Value.builtin "sorted") _) _ _ _); first | with_reducible ((k_here; (with_reducible show wpAny _ _ (call (Value.builtin "sorted") [Value.ref _]) _ _ _); k_dflt (refine' sorted64 ?z_F ?z_N ?z_l ?z_i ?z_h ?_; (case z_F => k_asm); (case z_N => k_asm); (case z_l => is_list); (case z_i => with_reducible assumption); (case z_h => simp only [List.length_append]; omega); k_whole); intro D'z vs'z ns'z e'z h'z F'z N'z hI'z hP'z hS'z hL'z))) | ((with_reducible show wpAny _ _ (getMethod (Value.ref _) _ _) _ _ _); first | with_reducible ((k_here; (with_reducible show wpAny _ _ (getMethod (Value.ref _) (PySem.Str.ofString "count") _) _ _ _); k_dflt (refine' baseMethod ?z_F ?z_m PySem.F.slot_list_count PySem.F.type_list_count ?_; (case z_F => k_asm); (case z_m => with_reducible assumption))))) | ((with_reducible show wpAny _ _ (eval (PySem.Expr.Call _ _ _ _) _) _ _ _); first | with_reducible ((k_here; (with_reducible show wpAny _ _ (eval (PySem.Expr.Call (PySem.Expr.Name _ _) (PySem.Expr.Name _ _ :: _) [] _) _) _ _ _); k_dflt (rename Fr _ _ _ _ => F8z; refine' callV F8z ?z_X ?z_f ?z_k ?z_a rfl ?_; (case z_X => k_asm); (case z_f => walk_at "mine vv"); (case z_k => k_is); (case z_a => walk_at "mine av")))) | with_reducible (k_fold)) | ((with_reducible show wpAny _ _ (isTrue (PySem.Expr.Compare _ _ _ _) _ _) _ _ _); first | with_reducible (k_fold)) | ((with_reducible show wpAny _ _ (eval (PySem.Expr.Subscript _ _ _) _) _ _ _); first | with_reducible (k_fold)) | ((with_reducible show wpAny _ _ (eval (PySem.Expr.BinOp _ _ _ _) _) _ _ _); first | with_reducible (k_fold)) | ((with_reducible show wpAny _ _ (execs (_ :: _) _) _ _ _); first | with_reducible (first | k_fold | (rename StMark _ => mk9z; refine tok_gen mk9z ?_; intro k9z; (with_reducible refine wpAny_execs_cons ?_); try dsimp only))) | ((with_reducible show ite _ _ _); first | with_reducible (refine ifexp_const ?_)) | ((with_reducible show wpAny _ _ (subscriptTail _ _ _ _) _ _ _); first | with_reducible (((with_reducible show wpAny _ _ (subscriptTail _ (PySem.Expr.Constant (PySem.Const.int 0) _ _) (Value.ref _) (Value.int 0 _)) _ _ _); k_dflt (refine' topTup_K ?z_F ?z_X ?z_l ?z_a ?z_b ?z_d ?z_e ?_; (case z_F => k_asm); (case z_X => k_asm); (case z_l => k_is); (case z_a => decide); (case z_b => decide); (case z_d => rfl); (case z_e => rfl); k_whole)))) | ((with_reducible show BodyQ _ _ _ _ _ _); first | with_reducible (refine Stop.of ?_)) | walk1 | dsimp only)
    all_goals ((((refine Stop.go ?_; (repeat (first | k_unfold | dsimp only)))); (refine BodyQ.int (by assumption) ?_); first | ((with_reducible refine lf0 ?_ ?_ ?_) <;> with_reducible assumption) | ((with_reducible refine lf1 ?_ ?_ ?_) <;> with_reducible assumption) | (with_reducible exact lf3 (by (first | exact na (by with_reducible assumption) | exact nb (by with_reducible assumption) | (intro x9; omega))) (by with_reducible assumption) (by with_reducible assumption) (by with_reducible assumption) (by with_reducible assumption) (by with_reducible assumption) (by with_reducible assumption)) | (with_reducible exact lf4 (by (first | exact na (by with_reducible assumption) | exact nb (by with_reducible assumption) | (intro x9; omega))) (by with_reducible assumption) (by with_reducible assumption) (by with_reducible assumption) (by with_reducible assumption) (by with_reducible assumption)) | (with_reducible exact lf5 (by (first | exact na (by with_reducible assumption) | exact nb (by with_reducible assumption) | (intro x9; omega))) (by with_reducible assumption) (by with_reducible assumption) (by with_reducible assumption) (by with_reducible assumption) (by with_reducible assumption)) | ((with_reducible refine lf6 ?_ ?_) <;> first | with_reducible assumption | (first | exact na (by with_reducible assumption) | exact nb (by with_reducible assumption) | (intro x9; omega)))))
  · repeat' (first | (k_unfold; (try dsimp only)) | ((with_reducible show wpAny _ _ (subscriptTail (PySem.Expr.Name _ _) (PySem.Expr.Constant _ _ _) (Value.ref _) (Value.int _ _)) _ _ _); first | with_reducible (((with_reducible show wpAny _ _ (subscriptTail _ _ (Value.ref 29) (Value.int _ _)) _ _ _); k_dflt (refine' topList_K ?z_F ?z_X ?z_l ?z_a ?z_b ?z_d ?_; (case z_F => k_asm); (case z_X => k_asm); (case z_l => k_is); (case z_a => decide); (case z_b => decide); (case z_d => rfl); k_whole))) | with_reducible (((k_here; (with_reducible show wpAny _ _ (subscriptTail _ _ (Value.ref _) (Value.int _ _)) _ _ _); k_dflt (refine' base_item ?z_F ?z_m ?z_a ?z_x ?_ ?z_s; (case z_F => k_asm); (case z_m => with_reducible assumption); (case z_a => rfl); (case z_x => rfl); (case z_s => with_unfolding_all rfl); k_whole))))) | ((with_reducible show wpAny _ _ (subscriptTail (PySem.Expr.Name _ _) (PySem.Expr.BinOp _ _ _ _) (Value.ref _) (Value.int _ _)) _ _ _); first | with_reducible (((k_here; (with_reducible show wpAny _ _ (subscriptTail _ _ (Value.ref _) (Value.int _ _)) _ _ _); k_dflt (refine' base_item ?z_F ?z_m ?z_a ?z_x ?_ ?z_s; (case z_F => k_asm); (case z_m => with_reducible assumption); (case z_a => rfl); (case z_x => rfl); (case z_s => with_unfolding_all rfl); k_whole))))) | ((with_reducible show wpAny _ _ (subscriptTail (PySem.Expr.Name _ _) (PySem.Expr.Name _ _) (Value.ref _) (Value.int _ _)) _ _ _); first | with_reducible (((k_here; (with_reducible show wpAny _ _ (subscriptTail _ _ (Value.ref _) (Value.int _ _)) _ _ _); k_dflt (refine' base_item ?z_F ?z_m ?z_a ?z_x ?_ ?z_s; (case z_F => k_asm); (case z_m => with_reducible assumption); (case z_a => rfl); (case z_x => rfl); (case z_s => with_unfolding_all rfl); k_whole))))) | ((with_reducible show wpAny _ _ (call (Value.builtin "sorted") _) _ _ _); first | with_reducible ((k_here; (with_reducible show wpAny _ _ (call (Value.builtin "sorted") [Value.ref _]) _ _ _); k_dflt (refine' sorted64 ?z_F ?z_N ?z_l ?z_i ?z_h ?_; (case z_F => k_asm); (case z_N => k_asm); (case z_l => is_list); (case z_i => with_reducible assumption); (case z_h => simp only [List.length_append]; omega); k_whole); intro D'z vs'z ns'z e'z h'z F'z N'z hI'z hP'z hS'z hL'z))) | ((with_reducible show wpAny _ _ (getMethod (Value.ref _) _ _) _ _ _); first | with_reducible ((k_here; (with_reducible show wpAny _ _ (getMethod (Value.ref _) (PySem.Str.ofString "count") _) _ _ _); k_dflt (refine' baseMethod ?z_F ?z_m PySem.F.slot_list_count PySem.F.type_list_count ?_; (case z_F => k_asm); (case z_m => with_reducible assumption))))) | ((with_reducible show wpAny _ _ (eval (PySem.Expr.Call _ _ _ _) _) _ _ _); first | with_reducible ((k_here; (with_reducible show wpAny _ _ (eval (PySem.Expr.Call (PySem.Expr.Name _ _) (PySem.Expr.Name _ _ :: _) [] _) _) _ _ _); k_dflt (rename Fr _ _ _ _ => F8z; refine' callV F8z ?z_X ?z_f ?z_k ?z_a rfl ?_; (case z_X => k_asm); (case z_f => walk_at "mine vv"); (case z_k => k_is); (case z_a => walk_at "mine av")))) | with_reducible (k_fold)) | ((with_reducible show wpAny _ _ (isTrue (PySem.Expr.Compare _ _ _ _) _ _) _ _ _); first | with_reducible (k_fold)) | ((with_reducible show wpAny _ _ (eval (PySem.Expr.Subscript _ _ _) _) _ _ _); first | with_reducible (k_fold)) | ((with_reducible show wpAny _ _ (eval (PySem.Expr.BinOp _ _ _ _) _) _ _ _); first | with_reducible (k_fold)) | ((with_reducible show wpAny _ _ (execs (_ :: _) _) _ _ _); first | with_reducible (first | k_fold | (rename StMark _ => mk9z; refine tok_gen mk9z ?_; intro k9z; (with_reducible refine wpAny_execs_cons ?_); try dsimp only))) | ((with_reducible show ite _ _ _); first | with_reducible (refine ifexp_const ?_)) | ((with_reducible show wpAny _ _ (subscriptTail _ _ _ _) _ _ _); first | with_reducible (((with_reducible show wpAny _ _ (subscriptTail _ (PySem.Expr.Constant (PySem.Const.int 0) _ _) (Value.ref _) (Value.int 0 _)) _ _ _); k_dflt (refine' topTup_K ?z_F ?z_X ?z_l ?z_a ?z_b ?z_d ?z_e ?_; (case z_F => k_asm); (case z_X => k_asm); (case z_l => k_is); (case z_a => decide); (case z_b => decide); (case z_d => rfl); (case z_e => rfl); k_whole)))) | ((with_reducible show BodyQ _ _ _ _ _ _); first | with_reducible (refine Stop.of ?_)) | walk1 | dsimp only)
    all_goals ((((refine Stop.go ?_; (repeat (first | k_unfold | dsimp only)))); (refine BodyQ.int (by assumption) ?_); first | ((with_reducible refine lf0 ?_ ?_ ?_) <;> with_reducible assumption) | ((with_reducible refine lf1 ?_ ?_ ?_) <;> with_reducible assumption) | (with_reducible exact lf3 (by (first | exact na (by with_reducible assumption) | exact nb (by with_reducible assumption) | (intro x9; omega))) (by with_reducible assumption) (by with_reducible assumption) (by with_reducible assumption) (by with_reducible assumption) (by with_reducible assumption) (by with_reducible assumption)) | (with_reducible exact lf4 (by (first | exact na (by with_reducible assumption) | exact nb (by with_reducible assumption) | (intro x9; omega))) (by with_reducible assumption) (by with_reducible assumption) (by with_reducible assumption) (by with_reducible assumption) (by with_reducible assumption)) | (with_reducible exact lf5 (by (first | exact na (by with_reducible assumption) | exact nb (by with_reducible assumption) | (intro x9; omega))) (by with_reducible assumption) (by with_reducible assumption) (by with_reducible assumption) (by with_reducible assumption) (by with_reducible assumption)) | ((with_reducible refine lf6 ?_ ?_) <;> first | with_reducible assumption | (first | exact na (by with_reducible assumption) | exact nb (by with_reducible assumption) | (intro x9; omega)))))



end
-- part C15
example : True := by w_top off; trivial
section
theorem phase_law {d o t : Int} (hd : 0 < d) (ho0 : 0 ≤ o) (ho1 : o ≤ d) (ht : t = (o * 128).fdiv d) : 0 ≤ t ∧ t ≤ 128 ∧ t * d ≤ 128 * o ∧ 128 * o < (t + 1) * d := by
  rw [Int.fdiv_eq_ediv_of_nonneg _ (by omega)] at ht
  have h1 := Int.mul_ediv_add_emod (o * 128) d
  have h2 := Int.emod_nonneg (o * 128) (show d ≠ 0 by omega)
  have h3 := Int.emod_lt_of_pos (o * 128) hd
  rw [← ht] at h1
  have e1 : t * d = d * t := Int.mul_comm t d
  have e2 : (t + 1) * d = d * t + d := by rw [Int.add_mul, Int.one_mul, Int.mul_comm]
  have h4 : 0 ≤ t := by rw [ht]; exact Int.ediv_nonneg (by omega) (by omega)
  have h5 : t ≤ 128 := by
    rw [ht]
    exact Int.ediv_le_of_le_mul hd (by omega)
  exact ⟨h4, h5, by omega, by omega⟩
noncomputable abbrev phaseT (n s : Int) : Int := if (15258 * n).fdiv 64 < (if (3915 * n).fdiv 64 > s then (3915 * n).fdiv 64 else s) then (15258 * n).fdiv 64 else (if (3915 * n).fdiv 64 > s then (3915 * n).fdiv 64 else s)
theorem phase_end {f r : Nat} {n a b t : Int} (hn : n = (f : Int) * (r : Int)) (h3 : 6 ≤ (f : Int) * (r : Int)) (h4 : (f : Int) * (r : Int) ≤ 64) (ht : t = phaseV f r a b) :
    0 ≤ t ∧ t ≤ 128 ∧ t * ((15258 * n).fdiv 64 - (3915 * n).fdiv 64) ≤ 128 * (phaseT n (a + b) - (3915 * n).fdiv 64) ∧ 128 * (phaseT n (a + b) - (3915 * n).fdiv 64) < (t + 1) * ((15258 * n).fdiv 64 - (3915 * n).fdiv 64) := by
  subst hn
  obtain ⟨g0, g1⟩ := phase_gap h3 h4
  refine phase_law g0 ?_ ?_ ht
  · unfold phaseT; split <;> (try split) <;> omega
  · unfold phaseT; split <;> (try split) <;> omega
theorem law_in_phase_spec (w : World) (ab ah : Addr) (f r : Nat) (bs : List Int) (a b told : Int) (t1 : Tok) (hb : Bd f r bs) (htold : told = phaseV f r a b) :
    Spec w 188 12 (fun h => BoardAt h ab bs ∧ HvAt h ah a b) [.ref ab, .ref ah, .int told t1] (fun v tl => tl = [] ∧ v = .bool true) := by
  refine' spec_of [(Str.ofString "board", .ref ab), (Str.ofString "heavy", .ref ah), (Str.ofString "told", .int told t1)] ?h1 ?h2 ?h3 ?h4 ?h5 ?h6 ?h7 ?h8 ?h9 ?_
  case h1 => k_is
  case h2 => k_is
  case h3 => omega
  case h4 => rfl
  case h5 => exact locs rfl
  case h6 => rfl
  case h7 => rfl
  case h8 => rfl
  case h9 => decide
  intro mean mg mb dp un gd outer A₀ base g L h₁ tk s B F X N T hpre hd hu
  change Fr g L h₁ (fun y => List.lookup y [(Str.ofString "told", Value.int told t1), (Str.ofString "heavy", Value.ref ah), (Str.ofString "board", Value.ref ab)]) at F
  refine letAE ?_
  intro A9 e9
  have sm9 := stMark s
  obtain ⟨x1, x2⟩ := hpre
  obtain ⟨vs, n, m1, i1⟩ := x1
  obtain ⟨n2, t2, t3, m4⟩ := x2.at_
  have j1 := isList_of m1
  have j4 := isList_of (vs := [.int a t2, .int b t3]) m4
  obtain ⟨hf1, hf2, hr1, hr2, hlen, hent, _, _⟩ := id hb
  obtain ⟨hc, hn1, hn2, hn3, hn4⟩ := fr_bounds hf1 hf2 hr1 hr2
  obtain ⟨hp1, hp2, hp3, hp4⟩ := phase_end (n := (bs.length : Int)) (by omega) hn3 hn4 htold
  repeat' (first | (k_unfold; (try dsimp only)) | ((with_reducible show wpAny _ _ (subscriptTail (PySem.Expr.Name _ _) (PySem.Expr.Constant _ _ _) (Value.ref _) (Value.int _ _)) _ _ _); first | with_reducible (((k_here; (with_reducible show wpAny _ _ (subscriptTail _ _ (Value.ref _) (Value.int _ _)) _ _ _); k_dflt (refine' base_item ?z_F ?z_m ?z_a ?z_x ?_ ?z_s; (case z_F => k_asm); (case z_m => with_reducible assumption); (case z_a => rfl); (case z_x => rfl); (case z_s => with_unfolding_all rfl); k_whole))))) | ((with_reducible show wpAny _ _ (eval (PySem.Expr.Call _ _ _ _) _) _ _ _); first | with_reducible ((k_here; (with_reducible show wpAny _ _ (eval (PySem.Expr.Call (PySem.Expr.Name _ _) (PySem.Expr.Name _ _ :: _) [] _) _) _ _ _); k_dflt (rename Fr _ _ _ _ => F8z; refine' callV F8z ?z_X ?z_f ?z_k ?z_a rfl ?_; (case z_X => k_asm); (case z_f => walk_at "mine vv"); (case z_k => k_is); (case z_a => walk_at "mine av")))) | with_reducible (k_fold)) | ((with_reducible show wpAny _ _ (eval (PySem.Expr.Subscript _ _ _) _) _ _ _); first | with_reducible (k_fold)) | ((with_reducible show wpAny _ _ (eval (PySem.Expr.BinOp _ _ _ _) _) _ _ _); first | with_reducible (k_fold)) | ((with_reducible show wpAny _ _ (execs (_ :: _) _) _ _ _); first | with_reducible (first | k_fold | (rename StMark _ => mk9z; refine tok_gen mk9z ?_; intro k9z; (with_reducible refine wpAny_execs_cons ?_); try dsimp only))) | ((with_reducible show BodyQ _ _ _ _ _ _); first | with_reducible (refine Stop.of ?_)) | walk1 | dsimp only)
  all_goals (((refine Stop.go ?_; (repeat (first | k_unfold | dsimp only)))); refine BodyQ.bool (by assumption) ?_)
  all_goals first | exact decide_eq_true hp4 | exact absurd hp3 (by assumption)



end
-- part C17
example : True := by w_top off; trivial
section
structure DrawnAt (h : Heap) (ad : Addr) (ns : List Int) : Prop where
  at_ : ∃ (vs : List Value) (n : Nat), h.get? ad = some (listOf (List.toArray vs) n) ∧ IntsAre vs ns
theorem DrawnAt.keeps {h h' : Heap} {ad : Addr} {ns : List Int} (x : DrawnAt h ad ns) (hs : ∀ b o, h.get? b = some o → h'.get? b = some o) : DrawnAt h' ad ns := by
  obtain ⟨vs, n, a, b⟩ := x.at_
  exact ⟨vs, n, hs _ _ a, b⟩
theorem DrawnAt.of {h₀ h : Heap} {L a : Addr} {news : List (Addr × Obj)} {vs : List Value} {n : Nat} {ns : List Int} (N : News h₀ L h news) (hm : (a, listOf vs.toArray n) ∈ news) (i : IntsAre vs ns) : DrawnAt h a ns := ⟨vs, n, (N _ hm).1, i⟩
noncomputable abbrev BdOut (f r : Nat) (v : Value) (tl : List (Addr × Obj)) : Prop := ∃ (a : Addr) (vs : List Value) (n : Nat) (bs : List Int), v = .ref a ∧ tl = [(a, listOf vs.toArray n)] ∧ IntsAre vs bs ∧ Bd f r bs
theorem bd_out {f r : Nat} {g : Heap} {L : Addr} {s : Shared} {h' : Heap} {tk' : Nat} {m' : PySem.Str → Option Value} {a : Addr} {vs : List Value} {n : Nat} {bs : List Int} {news : List (Addr × Obj)} (F : Fr g L h' m') (N : News g L h' news) (hm : (a, listOf vs.toArray n) ∈ news) (i : IntsAre vs bs) (hb : Bd f r bs) :
    BodyQ (BdOut f r) g L s (.ret (.ref a)) { s with heap := h', toks := tk' } :=
  BodyQ.mk _ F N (fun p hp => by rw [List.mem_singleton.mp hp]; exact hm) ⟨a, vs, n, bs, rfl, rfl, i, hb⟩
end
local macro_rules | `(tactic| k_all) => `(tactic| with_reducible assumption)
section
theorem law_lay_spec (w : World) (ad : Addr) (f r : Nat) (t1 t2 : Tok) (ns : List Int) (hf1 : 2 ≤ f) (hf2 : f ≤ 8) (hr1 : 3 ≤ r) (hr2 : r ≤ 8) (hl1 : 2 ≤ ns.length) (hl2 : ns.length ≤ 63) :
    Spec w 155 12 (fun h => DrawnAt h ad ns) [.int (f : Int) t1, .int (r : Int) t2, .ref ad] (BdOut f r) := by
  refine' spec_of [(Str.ofString "files", .int (f : Int) t1), (Str.ofString "ranks", .int (r : Int) t2), (Str.ofString "drawn", .ref ad)] ?h1 ?h2 ?h3 ?h4 ?h5 ?h6 ?h7 ?h8 ?h9 ?_
  case h1 => k_is
  case h2 => k_is
  case h3 => omega
  case h4 => rfl
  case h5 => exact locs rfl
  case h6 => rfl
  case h7 => rfl
  case h8 => rfl
  case h9 => decide
  intro mean mg mb dp un gd outer A₀ base g L h₁ tk s B F X N T hpre hd hu
  change Fr g L h₁ (fun y => List.lookup y [(Str.ofString "drawn", Value.ref ad), (Str.ofString "ranks", Value.int (r : Int) t2), (Str.ofString "files", Value.int (f : Int) t1)]) at F
  refine letAE ?_
  intro A9 e9
  have sm9 := stMark s
  obtain ⟨vs, n, m1, i1⟩ := hpre.at_
  have j1 := isList_of m1
  obtain ⟨hc, hn1, hn2, hn3, hn4⟩ := fr_bounds hf1 hf2 hr1 hr2
  have hA := Int.fmod_nonneg_of_pos ((ns.getD (Int.toNat 0) 0).fdiv 7) (show (0 : Int) < (f : Int) by omega)
  have hA2 := Int.fmod_lt_of_pos ((ns.getD (Int.toNat 0) 0).fdiv 7) (show (0 : Int) < (f : Int) by omega)
  have hB := Int.fmod_nonneg_of_pos ((ns.getD (Int.toNat 1) 0).fdiv 6) (show (0 : Int) < (f : Int) by omega)
  have hB2 := Int.fmod_lt_of_pos ((ns.getD (Int.toNat 1) 0).fdiv 6) (show (0 : Int) < (f : Int) by omega)
  have hC : (f : Int) * 3 ≤ (f : Int) * (r : Int) := Int.mul_le_mul_of_nonneg_left (by omega) (by omega)
  repeat' (first | (k_unfold; (try dsimp only)) | ((with_reducible show wpAny _ _ (exec (PySem.Stmt.For (PySem.Expr.Name _ _) (PySem.Expr.Subscript _ _ _) _ _ _) _) _ _ _); first | with_reducible (walk_at "exec For Name Call cons nil")) | ((with_reducible show wpAny _ _ (exec (PySem.Stmt.For (PySem.Expr.Name _ _) (PySem.Expr.Call _ _ _ _) _ _ _) _) _ _ _); first | with_reducible ((k_here; (rename Fr _ _ _ _ => lF'z); (with_unfolding_all refine' For_invVF lF'z ?z_k1 ?z_k2 ?_; (case z_k1 => exact rfl); (case z_k2 => exact rfl); k_whole)))) | ((with_reducible show wpAny _ _ (pyIter (Value.ref _)) _ _ _); first | with_reducible (((with_reducible show wpAny _ _ (pyIter (Value.ref _)) (fun it s₂ => LoopAtV _ _ _ _ _ _ _ _ _ it s₂) _ _); refine Stop.of ?_))) | ((with_reducible show wpAny _ _ (eval (PySem.Expr.Call _ _ _ _) _) _ _ _); first | with_reducible ((k_here; (with_reducible show wpAny _ _ (eval (PySem.Expr.Call (PySem.Expr.Name _ _) (PySem.Expr.Name _ _ :: _) [] _) _) _ _ _); k_dflt (rename Fr _ _ _ _ => F8z; refine' callV F8z ?z_X ?z_f ?z_k ?z_a rfl ?_; (case z_X => k_asm); (case z_f => walk_at "mine vv"); (case z_k => k_is); (case z_a => walk_at "mine av")))) | with_reducible (k_fold)) | ((with_reducible show wpAny _ _ (isTrue (PySem.Expr.Compare _ _ _ _) _ _) _ _ _); first | with_reducible (k_fold)) | ((with_reducible show wpAny _ _ (eval (PySem.Expr.Subscript _ _ _) _) _ _ _); first | with_reducible (k_fold)) | ((with_reducible show wpAny _ _ (eval (PySem.Expr.BinOp _ _ _ _) _) _ _ _); first | with_reducible (k_fold)) | ((with_reducible show wpAny _ _ (execs (_ :: _) _) _ _ _); first | with_reducible (first | k_fold | (rename StMark _ => mk9z; refine tok_gen mk9z ?_; intro k9z; (with_reducible refine wpAny_execs_cons ?_); try dsimp only))) | ((with_reducible show PySem.W.InvEndN _ _ _ _ _ _ _); first | with_reducible (refine Stop.of ?_)) | ((with_reducible show BodyQ _ _ _ _ _ _); first | with_reducible (refine Stop.of ?_)) | walk1 | dsimp only)
  refine Stop.go ?_
  rename Fr _ _ _ _ => F9
  rename News _ _ _ _ => N9
  rename IntsAre _ (List.drop 2 ns) => hI9
  refine' bd_list (f := f) (r := r) [Str.ofString "kind", Str.ofString "left", Str.ofString "s"] rfl hI9 (List.Mem.head _) (ne1 ?ne) F9 (news2 N9 ?m1 ?m2) ?ib ?hb ?turn ?done
  case hb => exact bd_start (j := (f : Int) * (r : Int) - 1 - ((ns.getD (Int.toNat 1) 0).fdiv 6).fmod (f : Int)) hf1 hf2 hr1 hr2 hA hA2 (by omega) (by omega)
  case ib => assumption
  case m1 => k_mem
  case m2 => k_mem
  case ne => k_ne
  case turn =>
    clear N9 F9
    intro vb bs pre n t u h tk own hmem jb hbd hne F2 N2
    have mk9 := kstMark
    have hlen := hbd.len
    have hq1 := Int.fmod_nonneg_of_pos (n.fdiv 40) (show (0 : Int) < (bs.length : Int) by omega)
    have hq2 := Int.fmod_lt_of_pos (n.fdiv 40) (show (0 : Int) < (bs.length : Int) by omega)
    have hk1 := Int.fmod_nonneg_of_pos n (show (0 : Int) < 5 by omega)
    have hk2 := Int.fmod_lt_of_pos n (show (0 : Int) < 5 by omega)
    have hk3 := Int.fmod_nonneg_of_pos (n.fdiv 5) (show (0 : Int) < 2 by omega)
    have hk4 := Int.fmod_lt_of_pos (n.fdiv 5) (show (0 : Int) < 2 by omega)
    repeat' (first | (k_unfold; (try dsimp only)) | ((with_reducible show wpAny _ _ (exec (PySem.Stmt.For (PySem.Expr.Name _ _) (PySem.Expr.Subscript _ _ _) _ _ _) _) _ _ _); first | with_reducible (walk_at "exec For Name Call cons nil")) | ((with_reducible show wpAny _ _ (exec (PySem.Stmt.For (PySem.Expr.Name _ _) (PySem.Expr.Call _ _ _ _) _ _ _) _) _ _ _); first | with_reducible ((k_here; (rename Fr _ _ _ _ => lF'z); (with_unfolding_all refine' For_invVF lF'z ?z_k1 ?z_k2 ?_; (case z_k1 => exact rfl); (case z_k2 => exact rfl); k_whole)))) | ((with_reducible show wpAny _ _ (pyIter (Value.ref _)) _ _ _); first | with_reducible (((with_reducible show wpAny _ _ (pyIter (Value.ref _)) (fun it s₂ => LoopAtV _ _ _ _ _ _ _ _ _ it s₂) _ _); refine Stop.of ?_))) | ((with_reducible show wpAny _ _ (eval (PySem.Expr.Call _ _ _ _) _) _ _ _); first | with_reducible ((k_here; (with_reducible show wpAny _ _ (eval (PySem.Expr.Call (PySem.Expr.Name _ _) (PySem.Expr.Name _ _ :: _) [] _) _) _ _ _); k_dflt (rename Fr _ _ _ _ => F8z; refine' callV F8z ?z_X ?z_f ?z_k ?z_a rfl ?_; (case z_X => k_asm); (case z_f => walk_at "mine vv"); (case z_k => k_is); (case z_a => walk_at "mine av")))) | with_reducible (k_fold)) | ((with_reducible show wpAny _ _ (isTrue (PySem.Expr.Compare _ _ _ _) _ _) _ _ _); first | with_reducible (k_fold)) | ((with_reducible show wpAny _ _ (eval (PySem.Expr.Subscript _ _ _) _) _ _ _); first | with_reducible (k_fold)) | ((with_reducible show wpAny _ _ (eval (PySem.Expr.BinOp _ _ _ _) _) _ _ _); first | with_reducible (k_fold)) | ((with_reducible show wpAny _ _ (execs (_ :: _) _) _ _ _); first | with_reducible (first | k_fold | (rename StMark _ => mk9z; refine tok_gen mk9z ?_; intro k9z; (with_reducible refine wpAny_execs_cons ?_); try dsimp only))) | ((with_reducible show PySem.W.InvEndN _ _ _ _ _ _ _); first | with_reducible (refine Stop.of ?_)) | ((with_reducible show BodyQ _ _ _ _ _ _); first | with_reducible (refine Stop.of ?_)) | walk1 | dsimp only)
    refine Stop.go ?_
    rename IsRange _ _ _ _ _ _ _ _ => R8
    rename Fr _ _ _ _ => F8
    rename News _ _ _ _ => N8
    refine' bd_range (Str.ofString "left") rfl R8 hq1 (by omega) (by omega) (by omega) hne F8 N8 jb hbd ?hl ?turn2 ?done2
    case hl => kst_all
    case turn2 =>
      clear F8 N8 R8 jb hne
      clear hbd
      intro vb bs pre lf tl k t h tk own2 hka hkb jb hbd hne F3 N3
      have hlen2 := hbd.len
      have hk0 : 0 ≤ k := by omega
      have hk5 : k < (bs.length : Int) := by omega
      repeat' (first | (k_unfold; (try dsimp only)) | ((with_reducible show wpAny _ _ (exec (PySem.Stmt.For (PySem.Expr.Name _ _) (PySem.Expr.Subscript _ _ _) _ _ _) _) _ _ _); first | with_reducible (walk_at "exec For Name Call cons nil")) | ((with_reducible show wpAny _ _ (exec (PySem.Stmt.For (PySem.Expr.Name _ _) (PySem.Expr.Call _ _ _ _) _ _ _) _) _ _ _); first | with_reducible ((k_here; (rename Fr _ _ _ _ => lF'z); (with_unfolding_all refine' For_invVF lF'z ?z_k1 ?z_k2 ?_; (case z_k1 => exact rfl); (case z_k2 => exact rfl); k_whole)))) | ((with_reducible show wpAny _ _ (pyIter (Value.ref _)) _ _ _); first | with_reducible (((with_reducible show wpAny _ _ (pyIter (Value.ref _)) (fun it s₂ => LoopAtV _ _ _ _ _ _ _ _ _ it s₂) _ _); refine Stop.of ?_))) | ((with_reducible show wpAny _ _ (eval (PySem.Expr.Call _ _ _ _) _) _ _ _); first | with_reducible ((k_here; (with_reducible show wpAny _ _ (eval (PySem.Expr.Call (PySem.Expr.Name _ _) (PySem.Expr.Name _ _ :: _) [] _) _) _ _ _); k_dflt (rename Fr _ _ _ _ => F8z; refine' callV F8z ?z_X ?z_f ?z_k ?z_a rfl ?_; (case z_X => k_asm); (case z_f => walk_at "mine vv"); (case z_k => k_is); (case z_a => walk_at "mine av")))) | with_reducible (k_fold)) | ((with_reducible show wpAny _ _ (isTrue (PySem.Expr.Compare _ _ _ _) _ _) _ _ _); first | with_reducible (k_fold)) | ((with_reducible show wpAny _ _ (eval (PySem.Expr.Subscript _ _ _) _) _ _ _); first | with_reducible (k_fold)) | ((with_reducible show wpAny _ _ (eval (PySem.Expr.BinOp _ _ _ _) _) _ _ _); first | with_reducible (k_fold)) | ((with_reducible show wpAny _ _ (execs (_ :: _) _) _ _ _); first | with_reducible (first | k_fold | (rename StMark _ => mk9z; refine tok_gen mk9z ?_; intro k9z; (with_reducible refine wpAny_execs_cons ?_); try dsimp only))) | ((with_reducible show PySem.W.InvEndN _ _ _ _ _ _ _); first | with_reducible (refine Stop.of ?_)) | ((with_reducible show BodyQ _ _ _ _ _ _); first | with_reducible (refine Stop.of ?_)) | walk1 | dsimp only)
      · refine Stop.go ?_
        refine' bd_range_end (by assumption) (by assumption) ?ib1 ?hb1 ?hl1 (by kst_same)
        case ib1 => assumption
        case hb1 => exact hbd.store (i := k.toNat) (by omega) (by omega) (by omega) (by omega)
        case hl1 => kst_all
      · refine Stop.go ?_
        refine' bd_range_end (by assumption) (by assumption) ?ib2 ?hb2 ?hl2 (by kst_same)
        case ib2 => assumption
        case hb2 => exact hbd.store (i := k.toNat) (by omega) (by omega) (by omega) (by omega)
        case hl2 => kst_all
      all_goals (refine Stop.go ?_; exact bd_range_end (by assumption) (by assumption) jb hbd (by kst_all) (by kst_same))
    case done2 =>
      clear F8 N8 R8 jb hq1 hq2 hlen
      clear hbd
      intro vb bs lf tl u h tk jb hbd F3 N3
      dsimp only
      repeat' (first | (k_unfold; (try dsimp only)) | ((with_reducible show wpAny _ _ (exec (PySem.Stmt.For (PySem.Expr.Name _ _) (PySem.Expr.Subscript _ _ _) _ _ _) _) _ _ _); first | with_reducible (walk_at "exec For Name Call cons nil")) | ((with_reducible show wpAny _ _ (exec (PySem.Stmt.For (PySem.Expr.Name _ _) (PySem.Expr.Call _ _ _ _) _ _ _) _) _ _ _); first | with_reducible ((k_here; (rename Fr _ _ _ _ => lF'z); (with_unfolding_all refine' For_invVF lF'z ?z_k1 ?z_k2 ?_; (case z_k1 => exact rfl); (case z_k2 => exact rfl); k_whole)))) | ((with_reducible show wpAny _ _ (pyIter (Value.ref _)) _ _ _); first | with_reducible (((with_reducible show wpAny _ _ (pyIter (Value.ref _)) (fun it s₂ => LoopAtV _ _ _ _ _ _ _ _ _ it s₂) _ _); refine Stop.of ?_))) | ((with_reducible show wpAny _ _ (eval (PySem.Expr.Call _ _ _ _) _) _ _ _); first | with_reducible ((k_here; (with_reducible show wpAny _ _ (eval (PySem.Expr.Call (PySem.Expr.Name _ _) (PySem.Expr.Name _ _ :: _) [] _) _) _ _ _); k_dflt (rename Fr _ _ _ _ => F8z; refine' callV F8z ?z_X ?z_f ?z_k ?z_a rfl ?_; (case z_X => k_asm); (case z_f => walk_at "mine vv"); (case z_k => k_is); (case z_a => walk_at "mine av")))) | with_reducible (k_fold)) | ((with_reducible show wpAny _ _ (isTrue (PySem.Expr.Compare _ _ _ _) _ _) _ _ _); first | with_reducible (k_fold)) | ((with_reducible show wpAny _ _ (eval (PySem.Expr.Subscript _ _ _) _) _ _ _); first | with_reducible (k_fold)) | ((with_reducible show wpAny _ _ (eval (PySem.Expr.BinOp _ _ _ _) _) _ _ _); first | with_reducible (k_fold)) | ((with_reducible show wpAny _ _ (execs (_ :: _) _) _ _ _); first | with_reducible (first | k_fold | (rename StMark _ => mk9z; refine tok_gen mk9z ?_; intro k9z; (with_reducible refine wpAny_execs_cons ?_); try dsimp only))) | ((with_reducible show PySem.W.InvEndN _ _ _ _ _ _ _); first | with_reducible (refine Stop.of ?_)) | ((with_reducible show BodyQ _ _ _ _ _ _); first | with_reducible (refine Stop.of ?_)) | walk1 | dsimp only)
      refine Stop.go ?_
      exact bd_list_end (by assumption) (by assumption) jb hbd (by kst_same)
  case done =>
    clear N9 F9
    intro vb bs u h tk jb hbd F2 N2
    dsimp only
    repeat' (first | (k_unfold; (try dsimp only)) | ((with_reducible show wpAny _ _ (exec (PySem.Stmt.For (PySem.Expr.Name _ _) (PySem.Expr.Subscript _ _ _) _ _ _) _) _ _ _); first | with_reducible (walk_at "exec For Name Call cons nil")) | ((with_reducible show wpAny _ _ (exec (PySem.Stmt.For (PySem.Expr.Name _ _) (PySem.Expr.Call _ _ _ _) _ _ _) _) _ _ _); first | with_reducible ((k_here; (rename Fr _ _ _ _ => lF'z); (with_unfolding_all refine' For_invVF lF'z ?z_k1 ?z_k2 ?_; (case z_k1 => exact rfl); (case z_k2 => exact rfl); k_whole)))) | ((with_reducible show wpAny _ _ (pyIter (Value.ref _)) _ _ _); first | with_reducible (((with_reducible show wpAny _ _ (pyIter (Value.ref _)) (fun it s₂ => LoopAtV _ _ _ _ _ _ _ _ _ it s₂) _ _); refine Stop.of ?_))) | ((with_reducible show wpAny _ _ (eval (PySem.Expr.Call _ _ _ _) _) _ _ _); first | with_reducible ((k_here; (with_reducible show wpAny _ _ (eval (PySem.Expr.Call (PySem.Expr.Name _ _) (PySem.Expr.Name _ _ :: _) [] _) _) _ _ _); k_dflt (rename Fr _ _ _ _ => F8z; refine' callV F8z ?z_X ?z_f ?z_k ?z_a rfl ?_; (case z_X => k_asm); (case z_f => walk_at "mine vv"); (case z_k => k_is); (case z_a => walk_at "mine av")))) | with_reducible (k_fold)) | ((with_reducible show wpAny _ _ (isTrue (PySem.Expr.Compare _ _ _ _) _ _) _ _ _); first | with_reducible (k_fold)) | ((with_reducible show wpAny _ _ (eval (PySem.Expr.Subscript _ _ _) _) _ _ _); first | with_reducible (k_fold)) | ((with_reducible show wpAny _ _ (eval (PySem.Expr.BinOp _ _ _ _) _) _ _ _); first | with_reducible (k_fold)) | ((with_reducible show wpAny _ _ (execs (_ :: _) _) _ _ _); first | with_reducible (first | k_fold | (rename StMark _ => mk9z; refine tok_gen mk9z ?_; intro k9z; (with_reducible refine wpAny_execs_cons ?_); try dsimp only))) | ((with_reducible show PySem.W.InvEndN _ _ _ _ _ _ _); first | with_reducible (refine Stop.of ?_)) | ((with_reducible show BodyQ _ _ _ _ _ _); first | with_reducible (refine Stop.of ?_)) | walk1 | dsimp only)
    ((refine Stop.go ?_; (repeat (first | k_unfold | dsimp only))))
    exact bd_out (by assumption) (by assumption) (List.Mem.head _) jb hbd



end
-- part C18
example : True := by w_top off; trivial
section
section
variable {prog : Program} {w : World} {A : Around} {E : Value → Shared → Prop} {s : Shared} {h₀ : Heap} {L l : Addr} {m : PySem.Str → Option Value} {news : List (Addr × Obj)} {value slice : PySem.Expr} {its : Array Value} {vl vu : Value} {lo hi : Option Int} {Q : Value → Shared → Prop}
theorem slice_mem {v : Value} (h : v ∈ (slicePick its lo hi none).toList) : v ∈ its.toList := by
  unfold slicePick at h
  simp only [List.mem_filterMap] at h
  obtain ⟨i, _, hi⟩ := h
  simpa using Array.mem_of_getElem? hi
theorem slice_some (F : Fr h₀ L s.heap m) (N : News h₀ L s.heap news) (hl : s.heap.IsList l its) (pl : IsPart vl lo) (pu : IsPart vu hi)
    (h : ∀ D (vs : List Value) h', Fr h₀ L h' m → News h₀ L h' ((D, listOf vs.toArray 0) :: news) → (∀ p ∈ news, p.1 < D) → (∀ v ∈ vs, v ∈ its.toList) → Q (.ref D) { s with heap := h' })
    (hs : subscripted slice false (.ref l) (.ref s.heap.objs.size) = operate [.ref s.heap.objs.size, .ref l] (getItem (.ref l) (.ref s.heap.objs.size))) (ht : ∀ r, letTemporaryGo value (.ref l) r = pure ()) (hz : its.size ≤ sizeLine) :
    wpAny (model prog w) A (subscriptTail value slice (.ref l) (.ref s.heap.objs.size)) Q E { s with heap := s.heap.push { cls := .type "slice", data := .fields #[vl, vu, .none] } } :=
  kmk_slice F N hl pl pu (fun D h' F' N' l1 => h D (slicePick its lo hi none).toList h' F' (by rw [Array.toArray_toList]; exact N') l1 fun _ hv => slice_mem hv) hs ht hz
end
end
local macro_rules | `(tactic| tb_rel) => `(tactic| first | exact List.Mem.head _ | (with_reducible assumption) | (refine List.mem_cons_of_mem _ ?_; tb_rel) | (refine List.mem_append_left _ ?_; tb_rel) | (refine List.mem_append_right _ ?_; tb_rel))
local macro_rules | `(tactic| walk_at "CompSrc") => `(tactic| refine Stop.of ?_)
section
noncomputable def TupIt (rest : List (Addr × Obj)) (v : Value) : Prop :=
  ∃ (T : Addr) (p q : Int) (tp tq : Tok), v = .ref T ∧ (T, ({ cls := .type "tuple", data := .seq #[.int p tp, .int q tq] } : Obj)) ∈ rest ∧ (p = 3 ∨ p = 11 ∨ p = 1 ∨ p = 9 ∨ p = 2)
set_option maxHeartbeats 40000000 in
theorem law_ending_spec (w : World) (ad : Addr) (f r : Nat) (t1 t2 : Tok) (ns : List Int) (hf1 : 2 ≤ f) (hf2 : f ≤ 8) (hr1 : 3 ≤ r) (hr2 : r ≤ 8) (hl1 : 2 ≤ ns.length) (hl2 : ns.length ≤ 63) :
    Spec w 160 20 (fun h => DrawnAt h ad ns) [.int (f : Int) t1, .int (r : Int) t2, .ref ad] (BdOut f r) := by
  refine' spec_ofC [(Str.ofString "files", .int (f : Int) t1), (Str.ofString "ranks", .int (r : Int) t2), (Str.ofString "drawn", .ref ad)] ?h1 ?h2 ?h3 ?h4 ?h5 ?h6 ?h7 ?h8 ?h9 ?_
  case h1 => k_is
  case h2 => k_is
  case h3 => omega
  case h4 => rfl
  case h5 => rfl
  case h6 => rfl
  case h7 => rfl
  case h8 => rfl
  case h9 => decide
  intro mean mg mb dp un gd outer A₀ base g L h₁ tk s cells B F X N Y T hpre hd hu
  k_cells Y
  refine letAE ?_
  intro A9 e9
  have sm9 := stMark s
  obtain ⟨vs, n, m1, i1⟩ := hpre.at_
  have j1 := isList_of m1
  obtain ⟨hc, hn1, hn2, hn3, hn4⟩ := fr_bounds hf1 hf2 hr1 hr2
  have mk9 := kstMark
  have hlt : (List.take 2 ns).length = 2 := by rw [List.length_take]; lia
  repeat' (first | (k_unfold; (try dsimp only)) | ((with_reducible show wpAny _ _ (exec (PySem.Stmt.For (PySem.Expr.Name _ _) (PySem.Expr.ListComp _ _ _ _) _ _ _) _) _ _ _); first | with_reducible (walk_at "exec For Name Call cons nil")) | ((with_reducible show wpAny _ _ (exec (PySem.Stmt.For (PySem.Expr.Tuple _ _ _) (PySem.Expr.Subscript _ _ _) _ _ _) _) _ _ _); first | with_reducible ((k_here; (rename Fr _ _ _ _ => lF'z); (with_unfolding_all refine' For_turns lF'z ?_; k_whole)))) | ((with_reducible show wpAny _ _ (subscriptTail (PySem.Expr.Name _ _) (PySem.Expr.Slice _ _ _ _) (Value.ref _) (Value.ref _)) _ _ _); first | with_reducible ((k_here; (with_reducible show wpAny _ _ (subscriptTail _ (PySem.Expr.Slice none (some (PySem.Expr.BinOp _ _ _ _)) none _) (Value.ref _) (Value.ref _)) _ _ _); k_dflt (refine' slice_some ?z_F ?z_N ?z_l ?z_p ?z_q ?_ ?z_s ?z_t ?z_z; (case z_F => k_asm); (case z_N => k_asm); (case z_l => kmk_list); (case z_p => kmk_part); (case z_q => kmk_part); (case z_s => with_unfolding_all rfl); (case z_t => kmk_pure); (case z_z => exact Nat.le_of_ble_eq_true rfl)); intro D'z vs'z h'z F'z N'z l1z hv'z; (try k_lt l1z)))) | ((with_reducible show wpAny _ _ (call (Value.ref _) _) _ _ _); first | with_reducible ((k_here; (with_reducible show wpAny _ _ (call (Value.ref 155) _) _ _ _); k_dflt (refine' Spec.use (law_lay_spec _ _ _ _ _ _ _ ?z_a1 ?z_a2 ?z_a3 ?z_a4 ?z_a5 ?z_a6) ?z_B ?z_F ?z_X ?z_N ?z_T ?z_hk ?z_hd ?z_hu ?z_hp ?_; (((case z_F => k_asm); (case z_N => k_asm); (case z_B => k_asm); (case z_X => k_asm); (case z_T => k_asm); (case z_hk => rfl); (case z_hd => first | exact roomD (by with_reducible assumption) rfl | omega); (case z_hu => first | exact roomU (by with_reducible assumption) rfl | omega))); (case z_hp => exact DrawnAt.of (by k_asm) (by k_mem) (by assumption)); (case z_a1 => assumption); (case z_a2 => assumption); (case z_a3 => assumption); (case z_a4 => assumption); (case z_a5 => omega); (case z_a6 => omega)); intro v9z tl9z h9z tk9z F9z N9z D9z o9z; k_dflt (obtain ⟨a8z, vs8z, n8z, bs8z, e8z, e9z, ib8z, hb8z⟩ := o9z); subst e8z; subst e9z; dsimp only [List.cons_append, List.nil_append] at N9z; have hl8' := Bd.len hb8z; replace D9z := neAll_of D9z; simp only [NeAll, and_true] at D9z))) | ((with_reducible show wpAny _ _ (pyIter (Value.ref _)) _ _ _); first | with_reducible (((with_reducible show wpAny _ _ (pyIter (Value.ref _)) (fun it s₂ => TurnsAt _ _ _ _ _ _ _ _ _ it s₂) _ _); refine Stop.of ?_)) | with_reducible (((with_reducible show wpAny _ _ (pyIter (Value.ref _)) (fun it s₂ => LoopAtV _ _ _ _ _ _ _ _ _ it s₂) _ _); refine Stop.of ?_))) | ((with_reducible show wpAny _ _ (eval (PySem.Expr.ListComp _ _ _ _) _) _ _ _); first | with_reducible ((k_here; (with_reducible show wpAny _ _ (eval (PySem.Expr.ListComp (PySem.Expr.BinOp _ _ _ _) [⟨PySem.Expr.Name _ _, _, [], 0⟩] _ _) _) _ _ _); k_dflt (refine LCg.ListComp_U (F₀ := by k_asm) (by with_unfolding_all rfl) (by decide) (by rfl) (by decide) (by rfl) ?_)))) | ((with_reducible show wpAny _ _ (execs (_ :: _) _) _ _ _); first | with_reducible (first | k_fold | ((with_reducible refine wpAny_execs_cons ?_); try dsimp only))) | ((with_reducible show wpAny _ _ (eval (PySem.Expr.Call _ _ _ _) _) _ _ _); first | with_reducible ((k_here; (with_reducible show wpAny _ _ (eval (PySem.Expr.Call (PySem.Expr.Name _ _) (PySem.Expr.Name _ _ :: _) [] _) _) _ _ _); k_dflt (rename Fr _ _ _ _ => F8z; refine' callV F8z ?z_X ?z_f ?z_k ?z_a rfl ?_; (case z_X => k_asm); (case z_f => walk_at "mine vv"); (case z_k => k_is); (case z_a => walk_at "mine av")))) | with_reducible (k_fold)) | ((with_reducible show wpAny _ _ (isTrue (PySem.Expr.Compare _ _ _ _) _ _) _ _ _); first | with_reducible (k_fold)) | ((with_reducible show wpAny _ _ (eval (PySem.Expr.Subscript _ _ _) _) _ _ _); first | with_reducible (k_fold)) | ((with_reducible show wpAny _ _ (eval (PySem.Expr.BinOp _ _ _ _) _) _ _ _); first | with_reducible (k_fold)) | ((with_reducible show PyProof.Rows.LCg.CompEnd _ _ _ _ _ _ _ _ _ _ _ _ _ _); first | with_reducible ((k_here; k_dflt (refine' compend0 ?z_F ?z_N ?z_off ?z_S ?_; (case z_F => k_asm); (case z_N => k_asm); (case z_off => assumption); (case z_S => first | trivial | exact .inl (by with_reducible assumption) | exact .inr ⟨_, by k_mem, rfl, _, rfl⟩))))) | ((with_reducible show PySem.W.UnrEndW _ _ _ _ _ _); first | (refine Stop.of ?_)) | ((with_reducible show PySem.W.KCfEl _ _ _ _); first | with_reducible (refine Stop.of ?_)) | ((with_reducible show PySem.W.InvEndN _ _ _ _ _ _ _); first | with_reducible (refine Stop.of ?_)) | ((with_reducible show BodyQ _ _ _ _ _ _); first | with_reducible (refine Stop.of ?_)) | walk1 | dsimp only)
  refine Stop.go ?_
  rename Fr _ _ _ _ => F9
  rename News _ _ _ _ => N9
  refine' turns_bd2 (f := f) (r := r) (Cn := L + 1 + 1) [Str.ofString "piece", Str.ofString "s"] (TupIt) rfl F9 N9 ?mDb ?mCn ?mAx ?n1 ?n2 ?n3 ?hon ?ib ?hb ?hIt ?turn ?done
  case hb => assumption
  case ib => assumption
  case mDb => k_mem
  case mCn => k_mem
  case mAx => k_mem
  case n1 => k_ne
  case n2 => k_ne
  case n3 => k_ne
  case hon => assumption
  case hIt =>
    intro rest hrest v hv
    have hv9 := (by assumption : ∀ v ∈ _, v ∈ Array.toList _) v hv
    simp only [List.mem_cons, List.not_mem_nil, or_false] at hv9
    rcases hv9 with rfl | rfl | rfl | rfl | rfl
    all_goals exact ⟨_, _, _, _, _, rfl, hrest _ (by k_mem) (by k_ne) (by k_ne), by decide⟩
  case turn =>
    intro rest hrest
    rename Obj.data _ = Data.cell (some (Value.int _ _)) => hdz
    rename List.length _ = f * r => hl9
    rename Obj => osz0
    have hmz : (L + 1, osz0) ∈ rest := hrest (L + 1, osz0) (by k_mem) (by k_ne) (by k_ne)
    obtain ⟨n0, osz, tsz, hn0, hmsz, hdsz⟩ : ∃ (n0 : Nat) (o : Obj) (t : Tok), n0 = f * r ∧ (L + 1, o) ∈ rest ∧ o.data = .cell (some (.int (n0 : Int) t)) :=
      ⟨_, _, _, hl9, hmz, hdz⟩
    clear F9 N9 hrest
    rintro v I oI vb bs on cv u h tk hcI ⟨T, p, q, tp, tq, rfl, hmT, hp⟩ hon jb hbd hneD hneC hneI nCD nID nIC F2 N2
    have hlen := hbd.len
    have hn9 : 0 < (n0 : Int) := by lia
    have hn8 : (n0 : Int) ≤ 64 := by lia
    repeat' (first | (k_unfold; (try dsimp only)) | ((with_reducible show wpAny _ _ (exec (PySem.Stmt.For (PySem.Expr.Name _ _) (PySem.Expr.ListComp _ _ _ _) _ _ _) _) _ _ _); first | with_reducible (walk_at "exec For Name Call cons nil")) | ((with_reducible show wpAny _ _ (exec (PySem.Stmt.For (PySem.Expr.Tuple _ _ _) (PySem.Expr.Subscript _ _ _) _ _ _) _) _ _ _); first | with_reducible ((k_here; (rename Fr _ _ _ _ => lF'z); (with_unfolding_all refine' For_turns lF'z ?_; k_whole)))) | ((with_reducible show wpAny _ _ (subscriptTail (PySem.Expr.Name _ _) (PySem.Expr.Slice _ _ _ _) (Value.ref _) (Value.ref _)) _ _ _); first | with_reducible ((k_here; (with_reducible show wpAny _ _ (subscriptTail _ (PySem.Expr.Slice none (some (PySem.Expr.BinOp _ _ _ _)) none _) (Value.ref _) (Value.ref _)) _ _ _); k_dflt (refine' slice_some ?z_F ?z_N ?z_l ?z_p ?z_q ?_ ?z_s ?z_t ?z_z; (case z_F => k_asm); (case z_N => k_asm); (case z_l => kmk_list); (case z_p => kmk_part); (case z_q => kmk_part); (case z_s => with_unfolding_all rfl); (case z_t => kmk_pure); (case z_z => exact Nat.le_of_ble_eq_true rfl)); intro D'z vs'z h'z F'z N'z l1z hv'z; (try k_lt l1z)))) | ((with_reducible show wpAny _ _ (call (Value.ref _) _) _ _ _); first | with_reducible ((k_here; (with_reducible show wpAny _ _ (call (Value.ref 155) _) _ _ _); k_dflt (refine' Spec.use (law_lay_spec _ _ _ _ _ _ _ ?z_a1 ?z_a2 ?z_a3 ?z_a4 ?z_a5 ?z_a6) ?z_B ?z_F ?z_X ?z_N ?z_T ?z_hk ?z_hd ?z_hu ?z_hp ?_; (((case z_F => k_asm); (case z_N => k_asm); (case z_B => k_asm); (case z_X => k_asm); (case z_T => k_asm); (case z_hk => rfl); (case z_hd => first | exact roomD (by with_reducible assumption) rfl | omega); (case z_hu => first | exact roomU (by with_reducible assumption) rfl | omega))); (case z_hp => exact DrawnAt.of (by k_asm) (by k_mem) (by assumption)); (case z_a1 => assumption); (case z_a2 => assumption); (case z_a3 => assumption); (case z_a4 => assumption); (case z_a5 => omega); (case z_a6 => omega)); intro v9z tl9z h9z tk9z F9z N9z D9z o9z; k_dflt (obtain ⟨a8z, vs8z, n8z, bs8z, e8z, e9z, ib8z, hb8z⟩ := o9z); subst e8z; subst e9z; dsimp only [List.cons_append, List.nil_append] at N9z; have hl8' := Bd.len hb8z; replace D9z := neAll_of D9z; simp only [NeAll, and_true] at D9z))) | ((with_reducible show wpAny _ _ (pyIter (Value.ref _)) _ _ _); first | with_reducible (((with_reducible show wpAny _ _ (pyIter (Value.ref _)) (fun it s₂ => TurnsAt _ _ _ _ _ _ _ _ _ it s₂) _ _); refine Stop.of ?_)) | with_reducible (((with_reducible show wpAny _ _ (pyIter (Value.ref _)) (fun it s₂ => LoopAtV _ _ _ _ _ _ _ _ _ it s₂) _ _); refine Stop.of ?_))) | ((with_reducible show wpAny _ _ (eval (PySem.Expr.ListComp _ _ _ _) _) _ _ _); first | with_reducible ((k_here; (with_reducible show wpAny _ _ (eval (PySem.Expr.ListComp (PySem.Expr.BinOp _ _ _ _) [⟨PySem.Expr.Name _ _, _, [], 0⟩] _ _) _) _ _ _); k_dflt (refine LCg.ListComp_U (F₀ := by k_asm) (by with_unfolding_all rfl) (by decide) (by rfl) (by decide) (by rfl) ?_)))) | ((with_reducible show wpAny _ _ (execs (_ :: _) _) _ _ _); first | with_reducible (first | k_fold | ((with_reducible refine wpAny_execs_cons ?_); try dsimp only))) | ((with_reducible show wpAny _ _ (eval (PySem.Expr.Call _ _ _ _) _) _ _ _); first | with_reducible ((k_here; (with_reducible show wpAny _ _ (eval (PySem.Expr.Call (PySem.Expr.Name _ _) (PySem.Expr.Name _ _ :: _) [] _) _) _ _ _); k_dflt (rename Fr _ _ _ _ => F8z; refine' callV F8z ?z_X ?z_f ?z_k ?z_a rfl ?_; (case z_X => k_asm); (case z_f => walk_at "mine vv"); (case z_k => k_is); (case z_a => walk_at "mine av")))) | with_reducible (k_fold)) | ((with_reducible show wpAny _ _ (isTrue (PySem.Expr.Compare _ _ _ _) _ _) _ _ _); first | with_reducible (k_fold)) | ((with_reducible show wpAny _ _ (eval (PySem.Expr.Subscript _ _ _) _) _ _ _); first | with_reducible (k_fold)) | ((with_reducible show wpAny _ _ (eval (PySem.Expr.BinOp _ _ _ _) _) _ _ _); first | with_reducible (k_fold)) | ((with_reducible show PyProof.Rows.LCg.CompEnd _ _ _ _ _ _ _ _ _ _ _ _ _ _); first | with_reducible ((k_here; k_dflt (refine' compend0 ?z_F ?z_N ?z_off ?z_S ?_; (case z_F => k_asm); (case z_N => k_asm); (case z_off => assumption); (case z_S => first | trivial | exact .inl (by with_reducible assumption) | exact .inr ⟨_, by k_mem, rfl, _, rfl⟩))))) | ((with_reducible show PySem.W.UnrEndW _ _ _ _ _ _); first | (refine Stop.of ?_)) | ((with_reducible show PySem.W.KCfEl _ _ _ _); first | with_reducible (refine Stop.of ?_)) | ((with_reducible show PySem.W.InvEndN _ _ _ _ _ _ _); first | with_reducible (refine Stop.of ?_)) | ((with_reducible show BodyQ _ _ _ _ _ _); first | with_reducible (refine Stop.of ?_)) | walk1 | dsimp only)
    refine Stop.go ?_
    rename IsRange _ _ _ _ _ _ _ _ => R9
    refine' LCg.CompSrc.range (n := n0) rfl (by assumption) (by assumption) R9 ?sm ?rs ?zz ?_
    case sm => exact small_one (by lia) (by lia) (by lia) (by lia)
    case rs => rw [rangeSize_nat]; lia
    case zz => rw [PySem.sizeLine_eq]; lia
    clear R9
    intro g6
    refine' kcf_range (n := n0) (fun k => (q + k).fmod (n0 : Int)) ?turnC ?finC
    case turnC =>
      intro k t I oI C oC D m₂ ys h tk E' hk1 hk2 hC hx F' N' off ne mk
      repeat' (first | (k_unfold; (try dsimp only)) | ((with_reducible show wpAny _ _ (exec (PySem.Stmt.For (PySem.Expr.Name _ _) (PySem.Expr.ListComp _ _ _ _) _ _ _) _) _ _ _); first | with_reducible (walk_at "exec For Name Call cons nil")) | ((with_reducible show wpAny _ _ (exec (PySem.Stmt.For (PySem.Expr.Tuple _ _ _) (PySem.Expr.Subscript _ _ _) _ _ _) _) _ _ _); first | with_reducible ((k_here; (rename Fr _ _ _ _ => lF'z); (with_unfolding_all refine' For_turns lF'z ?_; k_whole)))) | ((with_reducible show wpAny _ _ (subscriptTail (PySem.Expr.Name _ _) (PySem.Expr.Slice _ _ _ _) (Value.ref _) (Value.ref _)) _ _ _); first | with_reducible ((k_here; (with_reducible show wpAny _ _ (subscriptTail _ (PySem.Expr.Slice none (some (PySem.Expr.BinOp _ _ _ _)) none _) (Value.ref _) (Value.ref _)) _ _ _); k_dflt (refine' slice_some ?z_F ?z_N ?z_l ?z_p ?z_q ?_ ?z_s ?z_t ?z_z; (case z_F => k_asm); (case z_N => k_asm); (case z_l => kmk_list); (case z_p => kmk_part); (case z_q => kmk_part); (case z_s => with_unfolding_all rfl); (case z_t => kmk_pure); (case z_z => exact Nat.le_of_ble_eq_true rfl)); intro D'z vs'z h'z F'z N'z l1z hv'z; (try k_lt l1z)))) | ((with_reducible show wpAny _ _ (call (Value.ref _) _) _ _ _); first | with_reducible ((k_here; (with_reducible show wpAny _ _ (call (Value.ref 155) _) _ _ _); k_dflt (refine' Spec.use (law_lay_spec _ _ _ _ _ _ _ ?z_a1 ?z_a2 ?z_a3 ?z_a4 ?z_a5 ?z_a6) ?z_B ?z_F ?z_X ?z_N ?z_T ?z_hk ?z_hd ?z_hu ?z_hp ?_; (((case z_F => k_asm); (case z_N => k_asm); (case z_B => k_asm); (case z_X => k_asm); (case z_T => k_asm); (case z_hk => rfl); (case z_hd => first | exact roomD (by with_reducible assumption) rfl | omega); (case z_hu => first | exact roomU (by with_reducible assumption) rfl | omega))); (case z_hp => exact DrawnAt.of (by k_asm) (by k_mem) (by assumption)); (case z_a1 => assumption); (case z_a2 => assumption); (case z_a3 => assumption); (case z_a4 => assumption); (case z_a5 => omega); (case z_a6 => omega)); intro v9z tl9z h9z tk9z F9z N9z D9z o9z; k_dflt (obtain ⟨a8z, vs8z, n8z, bs8z, e8z, e9z, ib8z, hb8z⟩ := o9z); subst e8z; subst e9z; dsimp only [List.cons_append, List.nil_append] at N9z; have hl8' := Bd.len hb8z; replace D9z := neAll_of D9z; simp only [NeAll, and_true] at D9z))) | ((with_reducible show wpAny _ _ (pyIter (Value.ref _)) _ _ _); first | with_reducible (((with_reducible show wpAny _ _ (pyIter (Value.ref _)) (fun it s₂ => TurnsAt _ _ _ _ _ _ _ _ _ it s₂) _ _); refine Stop.of ?_)) | with_reducible (((with_reducible show wpAny _ _ (pyIter (Value.ref _)) (fun it s₂ => LoopAtV _ _ _ _ _ _ _ _ _ it s₂) _ _); refine Stop.of ?_))) | ((with_reducible show wpAny _ _ (eval (PySem.Expr.ListComp _ _ _ _) _) _ _ _); first | with_reducible ((k_here; (with_reducible show wpAny _ _ (eval (PySem.Expr.ListComp (PySem.Expr.BinOp _ _ _ _) [⟨PySem.Expr.Name _ _, _, [], 0⟩] _ _) _) _ _ _); k_dflt (refine LCg.ListComp_U (F₀ := by k_asm) (by with_unfolding_all rfl) (by decide) (by rfl) (by decide) (by rfl) ?_)))) | ((with_reducible show wpAny _ _ (execs (_ :: _) _) _ _ _); first | with_reducible (first | k_fold | ((with_reducible refine wpAny_execs_cons ?_); try dsimp only))) | ((with_reducible show wpAny _ _ (eval (PySem.Expr.Call _ _ _ _) _) _ _ _); first | with_reducible ((k_here; (with_reducible show wpAny _ _ (eval (PySem.Expr.Call (PySem.Expr.Name _ _) (PySem.Expr.Name _ _ :: _) [] _) _) _ _ _); k_dflt (rename Fr _ _ _ _ => F8z; refine' callV F8z ?z_X ?z_f ?z_k ?z_a rfl ?_; (case z_X => k_asm); (case z_f => walk_at "mine vv"); (case z_k => k_is); (case z_a => walk_at "mine av")))) | with_reducible (k_fold)) | ((with_reducible show wpAny _ _ (isTrue (PySem.Expr.Compare _ _ _ _) _ _) _ _ _); first | with_reducible (k_fold)) | ((with_reducible show wpAny _ _ (eval (PySem.Expr.Subscript _ _ _) _) _ _ _); first | with_reducible (k_fold)) | ((with_reducible show wpAny _ _ (eval (PySem.Expr.BinOp _ _ _ _) _) _ _ _); first | with_reducible (k_fold)) | ((with_reducible show PyProof.Rows.LCg.CompEnd _ _ _ _ _ _ _ _ _ _ _ _ _ _); first | with_reducible ((k_here; k_dflt (refine' compend0 ?z_F ?z_N ?z_off ?z_S ?_; (case z_F => k_asm); (case z_N => k_asm); (case z_off => assumption); (case z_S => first | trivial | exact .inl (by with_reducible assumption) | exact .inr ⟨_, by k_mem, rfl, _, rfl⟩))))) | ((with_reducible show PySem.W.UnrEndW _ _ _ _ _ _); first | (refine Stop.of ?_)) | ((with_reducible show PySem.W.KCfEl _ _ _ _); first | with_reducible (refine Stop.of ?_)) | ((with_reducible show PySem.W.InvEndN _ _ _ _ _ _ _); first | with_reducible (refine Stop.of ?_)) | ((with_reducible show BodyQ _ _ _ _ _ _); first | with_reducible (refine Stop.of ?_)) | walk1 | dsimp only)
      refine Stop.go ?_
      exact kcf_el rfl rfl rfl
    case finC =>
      unfold KPfDone
      intro ys hi5 D5 h5 tk5 F5 N5 o5
      have hmem5 : ∀ x ∈ (rangeKs 0 n0).map (fun k => (q + k).fmod (n0 : Int)), 0 ≤ x ∧ x < (n0 : Int) := by
        intro x hx
        obtain ⟨y, _, rfl⟩ := List.mem_map.mp hx
        exact ⟨Int.fmod_nonneg_of_pos _ hn9, Int.fmod_lt_of_pos _ hn9⟩
      repeat' (first | (k_unfold; (try dsimp only)) | ((with_reducible show wpAny _ _ (exec (PySem.Stmt.For (PySem.Expr.Name _ _) (PySem.Expr.ListComp _ _ _ _) _ _ _) _) _ _ _); first | with_reducible (walk_at "exec For Name Call cons nil")) | ((with_reducible show wpAny _ _ (exec (PySem.Stmt.For (PySem.Expr.Tuple _ _ _) (PySem.Expr.Subscript _ _ _) _ _ _) _) _ _ _); first | with_reducible ((k_here; (rename Fr _ _ _ _ => lF'z); (with_unfolding_all refine' For_turns lF'z ?_; k_whole)))) | ((with_reducible show wpAny _ _ (subscriptTail (PySem.Expr.Name _ _) (PySem.Expr.Slice _ _ _ _) (Value.ref _) (Value.ref _)) _ _ _); first | with_reducible ((k_here; (with_reducible show wpAny _ _ (subscriptTail _ (PySem.Expr.Slice none (some (PySem.Expr.BinOp _ _ _ _)) none _) (Value.ref _) (Value.ref _)) _ _ _); k_dflt (refine' slice_some ?z_F ?z_N ?z_l ?z_p ?z_q ?_ ?z_s ?z_t ?z_z; (case z_F => k_asm); (case z_N => k_asm); (case z_l => kmk_list); (case z_p => kmk_part); (case z_q => kmk_part); (case z_s => with_unfolding_all rfl); (case z_t => kmk_pure); (case z_z => exact Nat.le_of_ble_eq_true rfl)); intro D'z vs'z h'z F'z N'z l1z hv'z; (try k_lt l1z)))) | ((with_reducible show wpAny _ _ (call (Value.ref _) _) _ _ _); first | with_reducible ((k_here; (with_reducible show wpAny _ _ (call (Value.ref 155) _) _ _ _); k_dflt (refine' Spec.use (law_lay_spec _ _ _ _ _ _ _ ?z_a1 ?z_a2 ?z_a3 ?z_a4 ?z_a5 ?z_a6) ?z_B ?z_F ?z_X ?z_N ?z_T ?z_hk ?z_hd ?z_hu ?z_hp ?_; (((case z_F => k_asm); (case z_N => k_asm); (case z_B => k_asm); (case z_X => k_asm); (case z_T => k_asm); (case z_hk => rfl); (case z_hd => first | exact roomD (by with_reducible assumption) rfl | omega); (case z_hu => first | exact roomU (by with_reducible assumption) rfl | omega))); (case z_hp => exact DrawnAt.of (by k_asm) (by k_mem) (by assumption)); (case z_a1 => assumption); (case z_a2 => assumption); (case z_a3 => assumption); (case z_a4 => assumption); (case z_a5 => omega); (case z_a6 => omega)); intro v9z tl9z h9z tk9z F9z N9z D9z o9z; k_dflt (obtain ⟨a8z, vs8z, n8z, bs8z, e8z, e9z, ib8z, hb8z⟩ := o9z); subst e8z; subst e9z; dsimp only [List.cons_append, List.nil_append] at N9z; have hl8' := Bd.len hb8z; replace D9z := neAll_of D9z; simp only [NeAll, and_true] at D9z))) | ((with_reducible show wpAny _ _ (pyIter (Value.ref _)) _ _ _); first | with_reducible (((with_reducible show wpAny _ _ (pyIter (Value.ref _)) (fun it s₂ => TurnsAt _ _ _ _ _ _ _ _ _ it s₂) _ _); refine Stop.of ?_)) | with_reducible (((with_reducible show wpAny _ _ (pyIter (Value.ref _)) (fun it s₂ => LoopAtV _ _ _ _ _ _ _ _ _ it s₂) _ _); refine Stop.of ?_))) | ((with_reducible show wpAny _ _ (eval (PySem.Expr.ListComp _ _ _ _) _) _ _ _); first | with_reducible ((k_here; (with_reducible show wpAny _ _ (eval (PySem.Expr.ListComp (PySem.Expr.BinOp _ _ _ _) [⟨PySem.Expr.Name _ _, _, [], 0⟩] _ _) _) _ _ _); k_dflt (refine LCg.ListComp_U (F₀ := by k_asm) (by with_unfolding_all rfl) (by decide) (by rfl) (by decide) (by rfl) ?_)))) | ((with_reducible show wpAny _ _ (execs (_ :: _) _) _ _ _); first | with_reducible (first | k_fold | ((with_reducible refine wpAny_execs_cons ?_); try dsimp only))) | ((with_reducible show wpAny _ _ (eval (PySem.Expr.Call _ _ _ _) _) _ _ _); first | with_reducible ((k_here; (with_reducible show wpAny _ _ (eval (PySem.Expr.Call (PySem.Expr.Name _ _) (PySem.Expr.Name _ _ :: _) [] _) _) _ _ _); k_dflt (rename Fr _ _ _ _ => F8z; refine' callV F8z ?z_X ?z_f ?z_k ?z_a rfl ?_; (case z_X => k_asm); (case z_f => walk_at "mine vv"); (case z_k => k_is); (case z_a => walk_at "mine av")))) | with_reducible (k_fold)) | ((with_reducible show wpAny _ _ (isTrue (PySem.Expr.Compare _ _ _ _) _ _) _ _ _); first | with_reducible (k_fold)) | ((with_reducible show wpAny _ _ (eval (PySem.Expr.Subscript _ _ _) _) _ _ _); first | with_reducible (k_fold)) | ((with_reducible show wpAny _ _ (eval (PySem.Expr.BinOp _ _ _ _) _) _ _ _); first | with_reducible (k_fold)) | ((with_reducible show PyProof.Rows.LCg.CompEnd _ _ _ _ _ _ _ _ _ _ _ _ _ _); first | with_reducible ((k_here; k_dflt (refine' compend0 ?z_F ?z_N ?z_off ?z_S ?_; (case z_F => k_asm); (case z_N => k_asm); (case z_off => assumption); (case z_S => first | trivial | exact .inl (by with_reducible assumption) | exact .inr ⟨_, by k_mem, rfl, _, rfl⟩))))) | ((with_reducible show PySem.W.UnrEndW _ _ _ _ _ _); first | (refine Stop.of ?_)) | ((with_reducible show PySem.W.KCfEl _ _ _ _); first | with_reducible (refine Stop.of ?_)) | ((with_reducible show PySem.W.InvEndN _ _ _ _ _ _ _); first | with_reducible (refine Stop.of ?_)) | ((with_reducible show BodyQ _ _ _ _ _ _); first | with_reducible (refine Stop.of ?_)) | walk1 | dsimp only)
      refine Stop.go ?_
      rename Obj.data _ = Data.cell (some (Value.int q tq)) => hcell
      refine' bd_list_at (f := f) (r := r) [] rfl hi5 (Ne.symm o5.1) (List.forall_mem_cons.mpr ⟨nCD, hneD⟩) F5 N5 jb hbd ?turnS ?doneS
      case turnS =>
        clear F5 N5 o5 jb hbd hlen
        intro vb bs pre x t u h tk own hmem jb hbd hne F' N'
        have hlen := hbd.len
        obtain ⟨hx1, hx2⟩ := hmem5 x hmem
        have hx3 : x < (bs.length : Int) := by lia
        repeat' (first | (k_unfold; (try dsimp only)) | ((with_reducible show wpAny _ _ (exec (PySem.Stmt.For (PySem.Expr.Name _ _) (PySem.Expr.ListComp _ _ _ _) _ _ _) _) _ _ _); first | with_reducible (walk_at "exec For Name Call cons nil")) | ((with_reducible show wpAny _ _ (exec (PySem.Stmt.For (PySem.Expr.Tuple _ _ _) (PySem.Expr.Subscript _ _ _) _ _ _) _) _ _ _); first | with_reducible ((k_here; (rename Fr _ _ _ _ => lF'z); (with_unfolding_all refine' For_turns lF'z ?_; k_whole)))) | ((with_reducible show wpAny _ _ (subscriptTail (PySem.Expr.Name _ _) (PySem.Expr.Slice _ _ _ _) (Value.ref _) (Value.ref _)) _ _ _); first | with_reducible ((k_here; (with_reducible show wpAny _ _ (subscriptTail _ (PySem.Expr.Slice none (some (PySem.Expr.BinOp _ _ _ _)) none _) (Value.ref _) (Value.ref _)) _ _ _); k_dflt (refine' slice_some ?z_F ?z_N ?z_l ?z_p ?z_q ?_ ?z_s ?z_t ?z_z; (case z_F => k_asm); (case z_N => k_asm); (case z_l => kmk_list); (case z_p => kmk_part); (case z_q => kmk_part); (case z_s => with_unfolding_all rfl); (case z_t => kmk_pure); (case z_z => exact Nat.le_of_ble_eq_true rfl)); intro D'z vs'z h'z F'z N'z l1z hv'z; (try k_lt l1z)))) | ((with_reducible show wpAny _ _ (call (Value.ref _) _) _ _ _); first | with_reducible ((k_here; (with_reducible show wpAny _ _ (call (Value.ref 155) _) _ _ _); k_dflt (refine' Spec.use (law_lay_spec _ _ _ _ _ _ _ ?z_a1 ?z_a2 ?z_a3 ?z_a4 ?z_a5 ?z_a6) ?z_B ?z_F ?z_X ?z_N ?z_T ?z_hk ?z_hd ?z_hu ?z_hp ?_; (((case z_F => k_asm); (case z_N => k_asm); (case z_B => k_asm); (case z_X => k_asm); (case z_T => k_asm); (case z_hk => rfl); (case z_hd => first | exact roomD (by with_reducible assumption) rfl | omega); (case z_hu => first | exact roomU (by with_reducible assumption) rfl | omega))); (case z_hp => exact DrawnAt.of (by k_asm) (by k_mem) (by assumption)); (case z_a1 => assumption); (case z_a2 => assumption); (case z_a3 => assumption); (case z_a4 => assumption); (case z_a5 => omega); (case z_a6 => omega)); intro v9z tl9z h9z tk9z F9z N9z D9z o9z; k_dflt (obtain ⟨a8z, vs8z, n8z, bs8z, e8z, e9z, ib8z, hb8z⟩ := o9z); subst e8z; subst e9z; dsimp only [List.cons_append, List.nil_append] at N9z; have hl8' := Bd.len hb8z; replace D9z := neAll_of D9z; simp only [NeAll, and_true] at D9z))) | ((with_reducible show wpAny _ _ (pyIter (Value.ref _)) _ _ _); first | with_reducible (((with_reducible show wpAny _ _ (pyIter (Value.ref _)) (fun it s₂ => TurnsAt _ _ _ _ _ _ _ _ _ it s₂) _ _); refine Stop.of ?_)) | with_reducible (((with_reducible show wpAny _ _ (pyIter (Value.ref _)) (fun it s₂ => LoopAtV _ _ _ _ _ _ _ _ _ it s₂) _ _); refine Stop.of ?_))) | ((with_reducible show wpAny _ _ (eval (PySem.Expr.ListComp _ _ _ _) _) _ _ _); first | with_reducible ((k_here; (with_reducible show wpAny _ _ (eval (PySem.Expr.ListComp (PySem.Expr.BinOp _ _ _ _) [⟨PySem.Expr.Name _ _, _, [], 0⟩] _ _) _) _ _ _); k_dflt (refine LCg.ListComp_U (F₀ := by k_asm) (by with_unfolding_all rfl) (by decide) (by rfl) (by decide) (by rfl) ?_)))) | ((with_reducible show wpAny _ _ (execs (_ :: _) _) _ _ _); first | with_reducible (first | k_fold | ((with_reducible refine wpAny_execs_cons ?_); try dsimp only))) | ((with_reducible show wpAny _ _ (eval (PySem.Expr.Call _ _ _ _) _) _ _ _); first | with_reducible ((k_here; (with_reducible show wpAny _ _ (eval (PySem.Expr.Call (PySem.Expr.Name _ _) (PySem.Expr.Name _ _ :: _) [] _) _) _ _ _); k_dflt (rename Fr _ _ _ _ => F8z; refine' callV F8z ?z_X ?z_f ?z_k ?z_a rfl ?_; (case z_X => k_asm); (case z_f => walk_at "mine vv"); (case z_k => k_is); (case z_a => walk_at "mine av")))) | with_reducible (k_fold)) | ((with_reducible show wpAny _ _ (isTrue (PySem.Expr.Compare _ _ _ _) _ _) _ _ _); first | with_reducible (k_fold)) | ((with_reducible show wpAny _ _ (eval (PySem.Expr.Subscript _ _ _) _) _ _ _); first | with_reducible (k_fold)) | ((with_reducible show wpAny _ _ (eval (PySem.Expr.BinOp _ _ _ _) _) _ _ _); first | with_reducible (k_fold)) | ((with_reducible show PyProof.Rows.LCg.CompEnd _ _ _ _ _ _ _ _ _ _ _ _ _ _); first | with_reducible ((k_here; k_dflt (refine' compend0 ?z_F ?z_N ?z_off ?z_S ?_; (case z_F => k_asm); (case z_N => k_asm); (case z_off => assumption); (case z_S => first | trivial | exact .inl (by with_reducible assumption) | exact .inr ⟨_, by k_mem, rfl, _, rfl⟩))))) | ((with_reducible show PySem.W.UnrEndW _ _ _ _ _ _); first | (refine Stop.of ?_)) | ((with_reducible show PySem.W.KCfEl _ _ _ _); first | with_reducible (refine Stop.of ?_)) | ((with_reducible show PySem.W.InvEndN _ _ _ _ _ _ _); first | with_reducible (refine Stop.of ?_)) | ((with_reducible show BodyQ _ _ _ _ _ _); first | with_reducible (refine Stop.of ?_)) | walk1 | dsimp only)
        · refine Stop.go ?_
          rename News _ _ _ _ => N9
          refine' turns_bd_end (by assumption) (fun p hp => N9 p (sub5 p hp)) hcell ?ib1 ?hb1 (fun p hp => by rcases List.mem_cons.mp hp with rfl | hp; exact nID; rcases List.mem_cons.mp hp with rfl | hp; exact nCD; exact hneD p (.tail _ hp)) nIC hneI ?hz1
          case ib1 => assumption
          case hb1 => exact hbd.store (i := x.toNat) (by lia) (by lia) (by lia) (by lia)
          case hz1 => exact (by intro z h3; (have h4 := h3); (simp only [List.contains_cons, List.contains_nil, Bool.or_false, Bool.or_eq_false_iff, beq_eq_false_iff_ne, ne_eq] at h4); simp [h3, h4])
        · refine Stop.go ?_
          rename News _ _ _ _ => N9
          refine' turns_bd_end (by assumption) (fun p hp => N9 p (sub5 p hp)) hcell ?ib2 ?hb2 (fun p hp => by rcases List.mem_cons.mp hp with rfl | hp; exact nID; rcases List.mem_cons.mp hp with rfl | hp; exact nCD; exact hneD p (.tail _ hp)) nIC hneI ?hz2
          case ib2 => assumption
          case hb2 => exact hbd.store (i := x.toNat) (by lia) (by lia) (by lia) (by lia)
          case hz2 => exact (by intro z h3; (have h4 := h3); (simp only [List.contains_cons, List.contains_nil, Bool.or_false, Bool.or_eq_false_iff, beq_eq_false_iff_ne, ne_eq] at h4); simp [h3, h4])
        all_goals (refine Stop.go ?_; exact bd_list_end (by assumption) (by assumption) jb hbd (by kst_same))
      case doneS =>
        clear F5 N5 o5 jb hbd hlen
        intro vb bs u h tk jb hbd F' N'
        dsimp only
        repeat' (first | (k_unfold; (try dsimp only)) | ((with_reducible show wpAny _ _ (exec (PySem.Stmt.For (PySem.Expr.Name _ _) (PySem.Expr.ListComp _ _ _ _) _ _ _) _) _ _ _); first | with_reducible (walk_at "exec For Name Call cons nil")) | ((with_reducible show wpAny _ _ (exec (PySem.Stmt.For (PySem.Expr.Tuple _ _ _) (PySem.Expr.Subscript _ _ _) _ _ _) _) _ _ _); first | with_reducible ((k_here; (rename Fr _ _ _ _ => lF'z); (with_unfolding_all refine' For_turns lF'z ?_; k_whole)))) | ((with_reducible show wpAny _ _ (subscriptTail (PySem.Expr.Name _ _) (PySem.Expr.Slice _ _ _ _) (Value.ref _) (Value.ref _)) _ _ _); first | with_reducible ((k_here; (with_reducible show wpAny _ _ (subscriptTail _ (PySem.Expr.Slice none (some (PySem.Expr.BinOp _ _ _ _)) none _) (Value.ref _) (Value.ref _)) _ _ _); k_dflt (refine' slice_some ?z_F ?z_N ?z_l ?z_p ?z_q ?_ ?z_s ?z_t ?z_z; (case z_F => k_asm); (case z_N => k_asm); (case z_l => kmk_list); (case z_p => kmk_part); (case z_q => kmk_part); (case z_s => with_unfolding_all rfl); (case z_t => kmk_pure); (case z_z => exact Nat.le_of_ble_eq_true rfl)); intro D'z vs'z h'z F'z N'z l1z hv'z; (try k_lt l1z)))) | ((with_reducible show wpAny _ _ (call (Value.ref _) _) _ _ _); first | with_reducible ((k_here; (with_reducible show wpAny _ _ (call (Value.ref 155) _) _ _ _); k_dflt (refine' Spec.use (law_lay_spec _ _ _ _ _ _ _ ?z_a1 ?z_a2 ?z_a3 ?z_a4 ?z_a5 ?z_a6) ?z_B ?z_F ?z_X ?z_N ?z_T ?z_hk ?z_hd ?z_hu ?z_hp ?_; (((case z_F => k_asm); (case z_N => k_asm); (case z_B => k_asm); (case z_X => k_asm); (case z_T => k_asm); (case z_hk => rfl); (case z_hd => first | exact roomD (by with_reducible assumption) rfl | omega); (case z_hu => first | exact roomU (by with_reducible assumption) rfl | omega))); (case z_hp => exact DrawnAt.of (by k_asm) (by k_mem) (by assumption)); (case z_a1 => assumption); (case z_a2 => assumption); (case z_a3 => assumption); (case z_a4 => assumption); (case z_a5 => omega); (case z_a6 => omega)); intro v9z tl9z h9z tk9z F9z N9z D9z o9z; k_dflt (obtain ⟨a8z, vs8z, n8z, bs8z, e8z, e9z, ib8z, hb8z⟩ := o9z); subst e8z; subst e9z; dsimp only [List.cons_append, List.nil_append] at N9z; have hl8' := Bd.len hb8z; replace D9z := neAll_of D9z; simp only [NeAll, and_true] at D9z))) | ((with_reducible show wpAny _ _ (pyIter (Value.ref _)) _ _ _); first | with_reducible (((with_reducible show wpAny _ _ (pyIter (Value.ref _)) (fun it s₂ => TurnsAt _ _ _ _ _ _ _ _ _ it s₂) _ _); refine Stop.of ?_)) | with_reducible (((with_reducible show wpAny _ _ (pyIter (Value.ref _)) (fun it s₂ => LoopAtV _ _ _ _ _ _ _ _ _ it s₂) _ _); refine Stop.of ?_))) | ((with_reducible show wpAny _ _ (eval (PySem.Expr.ListComp _ _ _ _) _) _ _ _); first | with_reducible ((k_here; (with_reducible show wpAny _ _ (eval (PySem.Expr.ListComp (PySem.Expr.BinOp _ _ _ _) [⟨PySem.Expr.Name _ _, _, [], 0⟩] _ _) _) _ _ _); k_dflt (refine LCg.ListComp_U (F₀ := by k_asm) (by with_unfolding_all rfl) (by decide) (by rfl) (by decide) (by rfl) ?_)))) | ((with_reducible show wpAny _ _ (execs (_ :: _) _) _ _ _); first | with_reducible (first | k_fold | ((with_reducible refine wpAny_execs_cons ?_); try dsimp only))) | ((with_reducible show wpAny _ _ (eval (PySem.Expr.Call _ _ _ _) _) _ _ _); first | with_reducible ((k_here; (with_reducible show wpAny _ _ (eval (PySem.Expr.Call (PySem.Expr.Name _ _) (PySem.Expr.Name _ _ :: _) [] _) _) _ _ _); k_dflt (rename Fr _ _ _ _ => F8z; refine' callV F8z ?z_X ?z_f ?z_k ?z_a rfl ?_; (case z_X => k_asm); (case z_f => walk_at "mine vv"); (case z_k => k_is); (case z_a => walk_at "mine av")))) | with_reducible (k_fold)) | ((with_reducible show wpAny _ _ (isTrue (PySem.Expr.Compare _ _ _ _) _ _) _ _ _); first | with_reducible (k_fold)) | ((with_reducible show wpAny _ _ (eval (PySem.Expr.Subscript _ _ _) _) _ _ _); first | with_reducible (k_fold)) | ((with_reducible show wpAny _ _ (eval (PySem.Expr.BinOp _ _ _ _) _) _ _ _); first | with_reducible (k_fold)) | ((with_reducible show PyProof.Rows.LCg.CompEnd _ _ _ _ _ _ _ _ _ _ _ _ _ _); first | with_reducible ((k_here; k_dflt (refine' compend0 ?z_F ?z_N ?z_off ?z_S ?_; (case z_F => k_asm); (case z_N => k_asm); (case z_off => assumption); (case z_S => first | trivial | exact .inl (by with_reducible assumption) | exact .inr ⟨_, by k_mem, rfl, _, rfl⟩))))) | ((with_reducible show PySem.W.UnrEndW _ _ _ _ _ _); first | (refine Stop.of ?_)) | ((with_reducible show PySem.W.KCfEl _ _ _ _); first | with_reducible (refine Stop.of ?_)) | ((with_reducible show PySem.W.InvEndN _ _ _ _ _ _ _); first | with_reducible (refine Stop.of ?_)) | ((with_reducible show BodyQ _ _ _ _ _ _); first | with_reducible (refine Stop.of ?_)) | walk1 | dsimp only)
        refine Stop.go ?_
        rename News _ _ _ _ => N9
        exact turns_bd_end (by assumption) (fun p hp => N9 p (sub6 p hp)) hcell jb hbd (fun p hp => by rcases List.mem_cons.mp hp with rfl | hp; exact nID; rcases List.mem_cons.mp hp with rfl | hp; exact nCD; exact hneD p (.tail _ hp)) nIC hneI (by intro z h3; (have h4 := h3); (simp only [List.contains_cons, List.contains_nil, Bool.or_false, Bool.or_eq_false_iff, beq_eq_false_iff_ne, ne_eq] at h4); simp [h3, h4])
  case done =>
    clear F9 N9
    intro rest vb bs on u h tk jb hbd F2 N2
    dsimp only
    repeat' (first | (k_unfold; (try dsimp only)) | ((with_reducible show wpAny _ _ (exec (PySem.Stmt.For (PySem.Expr.Name _ _) (PySem.Expr.ListComp _ _ _ _) _ _ _) _) _ _ _); first | with_reducible (walk_at "exec For Name Call cons nil")) | ((with_reducible show wpAny _ _ (exec (PySem.Stmt.For (PySem.Expr.Tuple _ _ _) (PySem.Expr.Subscript _ _ _) _ _ _) _) _ _ _); first | with_reducible ((k_here; (rename Fr _ _ _ _ => lF'z); (with_unfolding_all refine' For_turns lF'z ?_; k_whole)))) | ((with_reducible show wpAny _ _ (subscriptTail (PySem.Expr.Name _ _) (PySem.Expr.Slice _ _ _ _) (Value.ref _) (Value.ref _)) _ _ _); first | with_reducible ((k_here; (with_reducible show wpAny _ _ (subscriptTail _ (PySem.Expr.Slice none (some (PySem.Expr.BinOp _ _ _ _)) none _) (Value.ref _) (Value.ref _)) _ _ _); k_dflt (refine' slice_some ?z_F ?z_N ?z_l ?z_p ?z_q ?_ ?z_s ?z_t ?z_z; (case z_F => k_asm); (case z_N => k_asm); (case z_l => kmk_list); (case z_p => kmk_part); (case z_q => kmk_part); (case z_s => with_unfolding_all rfl); (case z_t => kmk_pure); (case z_z => exact Nat.le_of_ble_eq_true rfl)); intro D'z vs'z h'z F'z N'z l1z hv'z; (try k_lt l1z)))) | ((with_reducible show wpAny _ _ (call (Value.ref _) _) _ _ _); first | with_reducible ((k_here; (with_reducible show wpAny _ _ (call (Value.ref 155) _) _ _ _); k_dflt (refine' Spec.use (law_lay_spec _ _ _ _ _ _ _ ?z_a1 ?z_a2 ?z_a3 ?z_a4 ?z_a5 ?z_a6) ?z_B ?z_F ?z_X ?z_N ?z_T ?z_hk ?z_hd ?z_hu ?z_hp ?_; (((case z_F => k_asm); (case z_N => k_asm); (case z_B => k_asm); (case z_X => k_asm); (case z_T => k_asm); (case z_hk => rfl); (case z_hd => first | exact roomD (by with_reducible assumption) rfl | omega); (case z_hu => first | exact roomU (by with_reducible assumption) rfl | omega))); (case z_hp => exact DrawnAt.of (by k_asm) (by k_mem) (by assumption)); (case z_a1 => assumption); (case z_a2 => assumption); (case z_a3 => assumption); (case z_a4 => assumption); (case z_a5 => omega); (case z_a6 => omega)); intro v9z tl9z h9z tk9z F9z N9z D9z o9z; k_dflt (obtain ⟨a8z, vs8z, n8z, bs8z, e8z, e9z, ib8z, hb8z⟩ := o9z); subst e8z; subst e9z; dsimp only [List.cons_append, List.nil_append] at N9z; have hl8' := Bd.len hb8z; replace D9z := neAll_of D9z; simp only [NeAll, and_true] at D9z))) | ((with_reducible show wpAny _ _ (pyIter (Value.ref _)) _ _ _); first | with_reducible (((with_reducible show wpAny _ _ (pyIter (Value.ref _)) (fun it s₂ => TurnsAt _ _ _ _ _ _ _ _ _ it s₂) _ _); refine Stop.of ?_)) | with_reducible (((with_reducible show wpAny _ _ (pyIter (Value.ref _)) (fun it s₂ => LoopAtV _ _ _ _ _ _ _ _ _ it s₂) _ _); refine Stop.of ?_))) | ((with_reducible show wpAny _ _ (eval (PySem.Expr.ListComp _ _ _ _) _) _ _ _); first | with_reducible ((k_here; (with_reducible show wpAny _ _ (eval (PySem.Expr.ListComp (PySem.Expr.BinOp _ _ _ _) [⟨PySem.Expr.Name _ _, _, [], 0⟩] _ _) _) _ _ _); k_dflt (refine LCg.ListComp_U (F₀ := by k_asm) (by with_unfolding_all rfl) (by decide) (by rfl) (by decide) (by rfl) ?_)))) | ((with_reducible show wpAny _ _ (execs (_ :: _) _) _ _ _); first | with_reducible (first | k_fold | ((with_reducible refine wpAny_execs_cons ?_); try dsimp only))) | ((with_reducible show wpAny _ _ (eval (PySem.Expr.Call _ _ _ _) _) _ _ _); first | with_reducible ((k_here; (with_reducible show wpAny _ _ (eval (PySem.Expr.Call (PySem.Expr.Name _ _) (PySem.Expr.Name _ _ :: _) [] _) _) _ _ _); k_dflt (rename Fr _ _ _ _ => F8z; refine' callV F8z ?z_X ?z_f ?z_k ?z_a rfl ?_; (case z_X => k_asm); (case z_f => walk_at "mine vv"); (case z_k => k_is); (case z_a => walk_at "mine av")))) | with_reducible (k_fold)) | ((with_reducible show wpAny _ _ (isTrue (PySem.Expr.Compare _ _ _ _) _ _) _ _ _); first | with_reducible (k_fold)) | ((with_reducible show wpAny _ _ (eval (PySem.Expr.Subscript _ _ _) _) _ _ _); first | with_reducible (k_fold)) | ((with_reducible show wpAny _ _ (eval (PySem.Expr.BinOp _ _ _ _) _) _ _ _); first | with_reducible (k_fold)) | ((with_reducible show PyProof.Rows.LCg.CompEnd _ _ _ _ _ _ _ _ _ _ _ _ _ _); first | with_reducible ((k_here; k_dflt (refine' compend0 ?z_F ?z_N ?z_off ?z_S ?_; (case z_F => k_asm); (case z_N => k_asm); (case z_off => assumption); (case z_S => first | trivial | exact .inl (by with_reducible assumption) | exact .inr ⟨_, by k_mem, rfl, _, rfl⟩))))) | ((with_reducible show PySem.W.UnrEndW _ _ _ _ _ _); first | (refine Stop.of ?_)) | ((with_reducible show PySem.W.KCfEl _ _ _ _); first | with_reducible (refine Stop.of ?_)) | ((with_reducible show PySem.W.InvEndN _ _ _ _ _ _ _); first | with_reducible (refine Stop.of ?_)) | ((with_reducible show BodyQ _ _ _ _ _ _); first | with_reducible (refine Stop.of ?_)) | walk1 | dsimp only)
    ((refine Stop.go ?_; (repeat (first | k_unfold | dsimp only))))
    exact bd_out (by assumption) (by assumption) (List.Mem.head _) jb hbd



end
-- part P6
example : True := by w_top off; trivial
section
theorem rowc_men (bs : List Int) (c k : Nat) (hk : k ≠ 0) : rowc (KB bs) (SB bs) c k = (menL bs (c : Int)).count (k : Int) := by
  unfold rowc
  rw [if_neg hk]
  exact pc_KS bs k c
theorem rowc_men0 (bs : List Int) (c : Nat) : rowc (KB bs) (SB bs) c 0 = if 1 < (menL bs (c : Int)).count 3 then 1 else 0 := by
  unfold rowc
  rw [if_pos rfl]
  have := pc_KS bs 3 c
  unfold KB SB
  rw [this]
  rfl
theorem worth2_men {f r : Nat} {bs : List Int} (hb : Bd f r bs) (c : Nat) : worth 2 (rowc (KB bs) (SB bs) c) = ((menL bs (c : Int)).foldl hvG []).sum := by
  rw [hv_sum _ (menL_ent hb _)]
  unfold worth
  rw [if_neg (by lia), rowc_men _ _ _ (by lia), rowc_men _ _ _ (by lia), rowc_men _ _ _ (by lia), rowc_men _ _ _ (by lia)]
  show _ = _
  have e1 : ((1 : Nat) : Int) = 1 := rfl
  have e2 : ((2 : Nat) : Int) = 2 := rfl
  have e3 : ((3 : Nat) : Int) = 3 := rfl
  have e4 : ((4 : Nat) : Int) = 4 := rfl
  have e5 : ((5 : Nat) : Int) = 5 := rfl
  simp only [e1, e2, e3, e4, e5]
  try lia
theorem worth1_men {f r : Nat} {bs : List Int} (hb : Bd f r bs) (c : Nat) : worth 1 (rowc (KB bs) (SB bs) c) = ((menL bs (c : Int)).map pv).sum := by
  rw [pv_sum _ (menL_ent hb _)]
  unfold worth
  rw [if_pos (by lia), rowc_men _ _ _ (by lia), rowc_men _ _ _ (by lia), rowc_men _ _ _ (by lia), rowc_men _ _ _ (by lia), rowc_men _ _ _ (by lia)]
  show _ = _
  have e1 : ((1 : Nat) : Int) = 1 := rfl
  have e2 : ((2 : Nat) : Int) = 2 := rfl
  have e3 : ((3 : Nat) : Int) = 3 := rfl
  have e4 : ((4 : Nat) : Int) = 4 := rfl
  have e5 : ((5 : Nat) : Int) = 5 := rfl
  simp only [e1, e2, e3, e4, e5]
  try lia

theorem strong_men {a b : Int} : (if 0 < a - b then (0 : Int) else 1) = (if a > b then 0 else 1) := by
  by_cases h : 0 < a - b
  · rw [if_pos h, if_pos (by lia)]
  · rw [if_neg h, if_neg (by lia)]
-- the colours
theorem col_law (f : Nat) (bs : List Int) (c : Nat) : ∀ n, n ≤ bs.length →
    (List.zipWith (fun a b => a && b) (List.zipWith (fun a b => a && b) (kindB (bs.take n) 3) (sideB (bs.take n) c)) (lightB f n)).count true = (colL f bs c n).count 1 ∧
    (List.zipWith (fun a b => a && b) (kindB (bs.take n) 3) (sideB (bs.take n) c)).count true = (colL f bs c n).length ∧ (List.zipWith (fun a b => a && b) (kindB (bs.take n) 3) (sideB (bs.take n) c)).length = n
  | 0, _ => by simp [kindB, sideB, lightB, colL]
  | n + 1, h => by
    obtain ⟨i1, i2, i3⟩ := col_law f bs c n (by lia)
    have ek : kindB (bs.take (n + 1)) 3 = kindB (bs.take n) 3 ++ [decide (bs.getD n 0 ≠ 0 ∧ bs.getD n 0 % 8 = 3)] := by rw [take_snoc (by lia)]; simp [kindB]
    have es : sideB (bs.take (n + 1)) c = sideB (bs.take n) c ++ [decide (bs.getD n 0 ≠ 0 ∧ bs.getD n 0 / 8 = (c : Int))] := by rw [take_snoc (by lia)]; simp [sideB]
    have ln : (bs.take n).length = n := by rw [List.length_take]; lia
    have lk : (kindB (bs.take n) 3).length = (sideB (bs.take n) c).length := by simp [kindB, sideB]
    rw [ek, es, lightB_succ, List.zipWith_append lk, List.zipWith_append (by rw [i3, lightB_len]), colL_succ]
    simp only [List.zipWith_cons_cons, List.zipWith_nil_left, List.count_append, List.length_append, i1, i2, i3]
    have e : (decide (bs.getD n 0 ≠ 0 ∧ bs.getD n 0 % 8 = 3) && decide (bs.getD n 0 ≠ 0 ∧ bs.getD n 0 / 8 = (c : Int))) = decide (bs.getD n 0 % 8 = 3 ∧ bs.getD n 0 / 8 = (c : Int)) := by
      rw [← Bool.decide_and]
      exact decide_eq_decide.mpr (by lia)
    rw [e]
    by_cases hc : bs.getD n 0 % 8 = 3 ∧ bs.getD n 0 / 8 = (c : Int)
    · rw [if_pos hc, decide_eq_true hc]
      by_cases hl : (n % f + n / f) % 2 = 1
      · rw [hl]; simp
      · have h0 : (n % f + n / f) % 2 = 0 := by lia
        rw [h0]; simp
    · rw [if_neg hc, decide_eq_false hc]
      simp
theorem colL_01 (f : Nat) (bs : List Int) (c n : Nat) : ∀ x ∈ colL f bs c n, x = 0 ∨ x = 1 := by
  intro x hx
  obtain ⟨s, _, rfl⟩ := List.mem_map.mp hx
  lia
theorem one_list {l : List Int} (h : l.length = 1) (h01 : ∀ x ∈ l, x = 0 ∨ x = 1) : (l = [0] ∧ l.count 1 = 0) ∨ (l = [1] ∧ l.count 1 = 1) := by
  match l, h with
  | [x], _ =>
    rcases h01 x (List.mem_cons_self ..) with rfl | rfl
    · exact .inl ⟨rfl, rfl⟩
    · exact .inr ⟨rfl, rfl⟩
theorem opp_men {f r : Nat} {bs : List Int} (hb : Bd f r bs) : oppV (KB bs) (SB bs) f (f * r) = ((decide (colL f bs 0 bs.length = [0]) && decide (colL f bs 1 bs.length = [1])) || (decide (colL f bs 0 bs.length = [1]) && decide (colL f bs 1 bs.length = [0]))) := by
  have ht : bs.take bs.length = bs := List.take_length
  obtain ⟨a1, a2, a3⟩ := col_law f bs 0 bs.length (Nat.le_refl _)
  obtain ⟨b1, b2, b3⟩ := col_law f bs 1 bs.length (Nat.le_refl _)
  rw [ht] at a1 a2 a3 b1 b2 b3
  have p0 : KB bs 3 &&& SB bs 0 = bw (List.zipWith (fun a b => a && b) (kindB bs 3) (sideB bs 0)) := bw_and _ _
  have p1 : KB bs 3 &&& SB bs 1 = bw (List.zipWith (fun a b => a && b) (kindB bs 3) (sideB bs 1)) := bw_and _ _
  unfold oppV
  rw [p0, p1, pc_bw, pc_bw, ← hb.len, bw_and, bw_and, a2, b2]
  have z0 := bw_zero (List.zipWith (fun a b => a && b) (List.zipWith (fun a b => a && b) (kindB bs 3) (sideB bs 0)) (lightB f bs.length))
  have z1 := bw_zero (List.zipWith (fun a b => a && b) (List.zipWith (fun a b => a && b) (kindB bs 3) (sideB bs 1)) (lightB f bs.length))
  rw [a1] at z0
  rw [b1] at z1
  generalize bw (List.zipWith (fun a b => a && b) (List.zipWith (fun a b => a && b) (kindB bs 3) (sideB bs 0)) (lightB f bs.length)) = B0 at z0 ⊢
  generalize bw (List.zipWith (fun a b => a && b) (List.zipWith (fun a b => a && b) (kindB bs 3) (sideB bs 1)) (lightB f bs.length)) = B1 at z1 ⊢
  have q0 := colL_01 f bs 0 bs.length
  have q1 := colL_01 f bs 1 bs.length
  generalize colL f bs 0 bs.length = C0 at z0 q0 ⊢
  generalize colL f bs 1 bs.length = C1 at z1 q1 ⊢
  by_cases l0 : C0.length = 1
  · by_cases l1 : C1.length = 1
    · rcases one_list l0 q0 with ⟨rfl, h0⟩ | ⟨rfl, h0⟩ <;> rcases one_list l1 q1 with ⟨rfl, h1⟩ | ⟨rfl, h1⟩ <;> rw [h0] at z0 <;> rw [h1] at z1 <;> simp at z0 z1 <;> simp [z0, z1]
    · rw [decide_eq_false l1]
      have n0 : ¬ C1 = [0] := fun e => l1 (by rw [e]; rfl)
      have n1 : ¬ C1 = [1] := fun e => l1 (by rw [e]; rfl)
      simp [n0, n1]
  · rw [decide_eq_false l0]
    have n0 : ¬ C0 = [0] := fun e => l0 (by rw [e]; rfl)
    have n1 : ¬ C0 = [1] := fun e => l0 (by rw [e]; rfl)
    simp [n0, n1]
theorem col_count (f : Nat) (bs : List Int) (c : Nat) : (menL bs (c : Int)).count 3 = (colL f bs c bs.length).length := by
  obtain ⟨_, a2, _⟩ := col_law f bs c bs.length (Nat.le_refl _)
  rw [List.take_length] at a2
  rw [← a2, ← pc_bw, ← bw_and]
  exact (pc_KS bs 3 c).symm



end
-- part P7
example : True := by w_top off; trivial
section
theorem sorted_unique : ∀ {l₁ l₂ : List Int}, l₁.Perm l₂ → l₁.Pairwise (· ≤ ·) → l₂.Pairwise (· ≤ ·) → l₁ = l₂
  | [], l₂, p, _, _ => p.nil_eq
  | a :: l₁, [], p, _, _ => by have := p.length_eq; simp at this
  | a :: l₁, b :: l₂, p, s1, s2 => by
    have h1 : a ∈ b :: l₂ := p.mem_iff.mp (List.mem_cons_self ..)
    have h2 : b ∈ a :: l₁ := p.mem_iff.mpr (List.mem_cons_self ..)
    have e : a = b := by
      have x1 : b ≤ a := by
        rcases List.mem_cons.mp h1 with h | h
        · lia
        · exact (List.pairwise_cons.mp s2).1 a h
      have x2 : a ≤ b := by
        rcases List.mem_cons.mp h2 with h | h
        · lia
        · exact (List.pairwise_cons.mp s1).1 b h
      lia
    subst e
    rw [sorted_unique (List.perm_cons a |>.mp p) (List.pairwise_cons.mp s1).2 (List.pairwise_cons.mp s2).2]
theorem last_four {M : List Int} {ns' : List Int} (h : ∀ x ∈ M, 1 ≤ x ∧ x ≤ 6) (c3 : M.count 3 = 2) (c6 : M.count 6 = 2) (hP : ns'.Perm M) (hS : ns'.Pairwise (· ≤ ·)) :
    ns'.drop (ns'.length - 4) = [3, 3, 6, 6] ↔ (M.count 4 = 0 ∧ M.count 5 = 0) := by
  constructor
  · intro hd
    have e : ns' = ns'.take (ns'.length - 4) ++ [3, 3, 6, 6] := by rw [← hd, List.take_append_drop]
    generalize ns'.take (ns'.length - 4) = A at e
    rw [e] at hS
    have hA := (List.pairwise_append.mp hS).2.2
    have key : ∀ a : Int, 3 < a → a ≠ 6 → M.count a = 0 := by
      intro a ha h6
      rw [← hP.count_eq, e, List.count_append]
      have n1 : A.count a = 0 := List.count_eq_zero.mpr fun hm => by have := hA a hm 3 (by simp); lia
      have n2 : ([3, 3, 6, 6] : List Int).count a = 0 := List.count_eq_zero.mpr fun hm => by simp at hm; lia
      rw [n1, n2]
    exact ⟨key 4 (by lia) (by lia), key 5 (by lia) (by lia)⟩
  · rintro ⟨h4, h5⟩
    have hP2 : ns'.Perm (ns'.filter (fun x => decide (x ≤ 2)) ++ [3, 3, 6, 6]) := by
      rw [List.perm_iff_count]
      intro a
      rw [List.count_append]
      have ca : ns'.count a = M.count a := hP.count_eq a
      by_cases ha : a ≤ 2
      · rw [List.count_filter (by simpa using ha)]
        have n2 : ([3, 3, 6, 6] : List Int).count a = 0 := List.count_eq_zero.mpr fun hm => by simp at hm; lia
        rw [n2, Nat.add_zero]
      · have n1 : (ns'.filter (fun x => decide (x ≤ 2))).count a = 0 := List.count_eq_zero.mpr fun hm => by have := (List.mem_filter.mp hm).2; simp at this; lia
        rw [n1, Nat.zero_add, ca]
        by_cases a3 : a = 3
        · subst a3; rw [c3]; rfl
        · by_cases a4 : a = 4
          · subst a4; rw [h4]; rfl
          · by_cases a5 : a = 5
            · subst a5; rw [h5]; rfl
            · by_cases a6 : a = 6
              · subst a6; rw [c6]; rfl
              · have n3 : M.count a = 0 := List.count_eq_zero.mpr fun hm => by have := h a hm; lia
                have n2 : ([3, 3, 6, 6] : List Int).count a = 0 := List.count_eq_zero.mpr fun hm => by simp at hm; lia
                rw [n3, n2]
    have hS2 : (ns'.filter (fun x => decide (x ≤ 2)) ++ [3, 3, 6, 6]).Pairwise (· ≤ ·) := by
      refine List.pairwise_append.mpr ⟨hS.filter _, by decide, fun a ha b hb => ?_⟩
      have := (List.mem_filter.mp ha).2
      simp at this hb
      lia
    have e := sorted_unique hP2 hS hS2
    rw [e]
    simp
theorem menL_count (k c : Int) (hk : 0 < k) (hk8 : k < 8) : ∀ bs : List Int, (menL bs c).count k = bs.count (8 * c + k)
  | [] => rfl
  | x :: bs => by
    have ih := menL_count k c hk hk8 bs
    rw [List.count_cons, ← ih]
    unfold menL
    by_cases h : x ≠ 0 ∧ x / 8 = c
    · rw [List.filter_cons_of_pos (by simpa using h), List.map_cons, List.count_cons]
      have e : (x % 8 == k) = (x == 8 * c + k) := by
        rw [Bool.eq_iff_iff]
        simp only [beq_iff_eq]
        lia
      rw [e]
    · rw [List.filter_cons_of_neg (by simpa using h)]
      have e : (x == 8 * c + k) = false := beq_eq_false_iff_ne.mpr (by lia)
      rw [e]
      simp
theorem LQ_men {f r : Nat} {bs : List Int} (hb : Bd f r bs) {o : Bool} {ao af : Int} (ho : o = true → (menL bs 0).count 3 = 1 ∧ (menL bs 1).count 3 = 1)
    (ha : (ao = ((menL bs 0).foldl hvG []).sum ∧ af = ((menL bs 1).foldl hvG []).sum) ∨ (ao = ((menL bs 1).foldl hvG []).sum ∧ af = ((menL bs 0).foldl hvG []).sum)) : LQ (menL bs 0) (menL bs 1) o ao af := by
  intro ho' ns' hP hS
  obtain ⟨c30, c31⟩ := ho ho'
  have c60 : (menL bs 0).count 6 = 1 := by rw [menL_count 6 0 (by lia) (by lia)]; exact hb.k6
  have c61 : (menL bs 1).count 6 = 1 := by rw [menL_count 6 1 (by lia) (by lia)]; exact hb.k14
  have hE : ∀ x ∈ menL bs 0 ++ menL bs 1, 1 ≤ x ∧ x ≤ 6 := fun x hx => by
    rcases List.mem_append.mp hx with h | h
    · exact menL_ent hb 0 x h
    · exact menL_ent hb 1 x h
  have l4 := last_four hE (by rw [List.count_append, c30, c31]) (by rw [List.count_append, c60, c61]) hP hS
  rw [List.count_append, List.count_append] at l4
  have s0 := hv_sum _ (menL_ent hb 0)
  have s1 := hv_sum _ (menL_ent hb 1)
  rw [c30] at s0
  rw [c31] at s1
  constructor
  · rintro ⟨hd, h2⟩
    obtain ⟨h4, h5⟩ := l4.mp hd
    rcases ha with ⟨e1, e2⟩ | ⟨e1, e2⟩ <;> rw [e1, e2, s0, s1] <;> lia
  · rintro ⟨e3, e4⟩
    have z : (menL bs 0).count 2 = 0 ∧ (menL bs 1).count 2 = 0 ∧ (menL bs 0).count 4 = 0 ∧ (menL bs 1).count 4 = 0 ∧ (menL bs 0).count 5 = 0 ∧ (menL bs 1).count 5 = 0 := by
      rcases ha with ⟨e1, e2⟩ | ⟨e1, e2⟩ <;> rw [e1] at e3 <;> rw [e2] at e4 <;> rw [s0] at * <;> rw [s1] at * <;> lia
    exact ⟨l4.mpr (by lia), by lia⟩



end
-- part X1
example : True := by w_top off; trivial
section
/-- PIECE_VALUES[k] is a pair that opens with pv k -/
noncomputable def PvTup (w : World) (a : Addr) (k : Int) : Prop := ∃ (t t' : Tok) (y : Int) (n : Nat) (dd : Option Addr) (sl : Array (Option Value)), (hd.heap_1 w.params).lookup a = some ⟨.type "tuple", dd, .seq [Value.int (pv k) t, Value.int y t'].toArray n, sl⟩
theorem pv_top {w : World} {A : Around} {E : Value → Shared → Prop} {s : Shared} {h₀ : Heap} {L : Addr} {m : PySem.Str → Option Value} {value slice : PySem.Expr} {k : Int} {u : Tok} {Q : Value → Shared → Prop} (F : Fr h₀ L s.heap m) (X : (hd.heap_1 w.params).In h₀) (hk : 1 ≤ k ∧ k ≤ 6)
    (h : ∀ a, PvTup w a k → Q (.ref a) s)
    (hs : subscripted slice false (.ref 29) (.int k u) = operate [.ref 29, .int k u] (getItem (.ref 29) (.int k u)) := by with_unfolding_all rfl) :
    wpAny (model PR w) A (subscriptTail value slice (.ref 29) (.int k u)) Q E s := by
  have hc6 : k = 1 ∨ k = 2 ∨ k = 3 ∨ k = 4 ∨ k = 5 ∨ k = 6 := by lia
  rcases hc6 with rfl | rfl | rfl | rfl | rfl | rfl
  all_goals (refine' topList_K F X ?l ?a ?b ?d ?_ hs; (case l => k_is); (case a => decide); (case b => decide); (case d => rfl); exact h _ ⟨_, _, _, _, _, _, by k_is⟩)
theorem pv_item {w : World} {A : Around} {E : Value → Shared → Prop} {s : Shared} {h₀ : Heap} {L a : Addr} {m : PySem.Str → Option Value} {value slice : PySem.Expr} {k : Int} {u : Tok} {Q : Value → Shared → Prop} (F : Fr h₀ L s.heap m) (X : (hd.heap_1 w.params).In h₀) (P : PvTup w a k)
    (h : ∀ t, Q (.int (pv k) t) s)
    (hs : subscripted slice false (.ref a) (.int 0 u) = operate [.ref a, .int 0 u] (getItem (.ref a) (.int 0 u)) := by with_unfolding_all rfl) :
    wpAny (model PR w) A (subscriptTail value slice (.ref a) (.int 0 u)) Q E s := by
  obtain ⟨t, t', y, n, dd, sl, hl⟩ := P
  exact topTup_K F X hl (by decide) (by decide) rfl rfl (h t) hs



end
-- part X2
example : True := by w_top off; trivial
section
theorem isStr_eq {v : Value} {x : PySem.Str} (h : v.isStr x = true) : ∃ t, v = .str x t := by
  unfold Value.isStr at h
  split at h
  · rename_i y t
    exact ⟨_, by rw [eq_of_beq h]⟩
  · cases h
theorem getL_find {x : PySem.Str} {es : List DictEntry} {v : Value} (h : getL x es = some (some v)) : ∃ e, es.find? (·.key.isStr x) = some e ∧ e.val = v := by
  unfold getL at h
  split at h
  · rename_i e he
    exact ⟨e, he, Option.some.inj (Option.some.inj h)⟩
  · split at h <;> cases h
theorem find_getL {x : PySem.Str} {es : List DictEntry} {e : DictEntry} (h : es.find? (·.key.isStr x) = some e) : getL x es = some (some e.val) := by
  unfold getL
  rw [h]
theorem putL_same {x : PySem.Str} {hsh : Int} {key v : Value} : ∀ {es : List DictEntry} {e : DictEntry}, es.find? (·.key.isStr x) = some e → (putL x hsh key v es).find? (·.key.isStr x) = some ⟨e.hash, e.key, v⟩ ∧ (putL x hsh key v es).length = es.length
  | [], _, h => by cases h
  | d :: r, e, h => by
    unfold putL
    cases hd : d.key.isStr x with
    | true =>
      rw [List.find?_cons_of_pos (p := fun z : DictEntry => z.key.isStr x) hd] at h
      cases h
      simp [hd]
    | false =>
      rw [List.find?_cons_of_neg (p := fun z : DictEntry => z.key.isStr x) (by simp [hd])] at h
      obtain ⟨a, b⟩ := putL_same (hsh := hsh) (key := key) (v := v) h
      simp [hd, a, b]
theorem putL_other {x y : PySem.Str} (hne : x ≠ y) {hsh : Int} {key v : Value} : ∀ {es : List DictEntry} {e : DictEntry}, es.find? (·.key.isStr x) = some e → (putL x hsh key v es).find? (·.key.isStr y) = es.find? (·.key.isStr y)
  | [], _, h => by cases h
  | d :: r, e, h => by
    unfold putL
    cases hd : d.key.isStr x with
    | true =>
      have hy : d.key.isStr y = false := by
        obtain ⟨t, ht⟩ := isStr_eq hd
        rw [ht]
        show (x == y) = false
        exact beq_false_of_ne hne
      simp [hy]
    | false =>
      rw [List.find?_cons_of_neg (p := fun z : DictEntry => z.key.isStr x) (by simp [hd])] at h
      have ih := putL_other hne (hsh := hsh) (key := key) (v := v) h
      simp only [Bool.false_eq_true, if_false, List.find?_cons]
      rw [ih]
theorem putL_getL {x y : PySem.Str} (hne : x ≠ y) {hsh : Int} {key v : Value} {es : List DictEntry} {u z : Value} (h : getL x es = some (some u)) (h' : getL y es = some (some z)) : getL y (putL x hsh key v es) = some (some z) := by
  obtain ⟨e, he, _⟩ := getL_find h
  obtain ⟨e', he', hz⟩ := getL_find h'
  rw [find_getL (e := e') (by rw [putL_other hne he]; exact he'), hz]
theorem putL_getL_same {x : PySem.Str} {hsh : Int} {key v : Value} {es : List DictEntry} {u : Value} (h : getL x es = some (some u)) : getL x (putL x hsh key v es) = some (some v) ∧ (putL x hsh key v es).length = es.length := by
  obtain ⟨e, he, _⟩ := getL_find h
  obtain ⟨a, b⟩ := putL_same (hsh := hsh) (key := key) (v := v) he
  exact ⟨find_getL a, b⟩
theorem PosRec.Ok.setSide {dp ag dg ak as : Addr} {es eg : List DictEntry} {np ng ck cs : Nat} {kv sv : List Value} {KI SI : List Int} {f r : Nat} {K S : Nat → Nat} {sd : Nat} (ok : (PosRec.mk dp ag dg ak as es eg np ng ck cs kv sv KI SI).Ok f r K S sd) (hsh : Int) (key : Value) (c : Nat) (t : Tok) (np' : Nat) :
    (PosRec.mk dp ag dg ak as (putL (PySem.Str.ofString "side") hsh key (.int (c : Int) t) es) eg np' ng ck cs kv sv KI SI).Ok f r K S c := by
  obtain ⟨h1, h2, h3, ⟨t4, h4⟩, h5, h6, h7, h8, h9, h10, h11, h12, h13, h14, h15⟩ := ok
  refine ⟨putL_getL (by decide) h4 h1, putL_getL (by decide) h4 h2, putL_getL (by decide) h4 h3, ⟨t, (putL_getL_same h4).1⟩, h5, h6, h7, h8, h9, h10, h11, h12, h13, h14, ?_⟩
  show List.length (putL _ _ _ _ es) ≤ 900
  rw [(putL_getL_same h4).2]
  exact h15
theorem PosRec.Ok.sideL {dp ag dg ak as : Addr} {es eg : List DictEntry} {np ng ck cs : Nat} {kv sv : List Value} {KI SI : List Int} {f r : Nat} {K S : Nat → Nat} {sd : Nat} (ok : (PosRec.mk dp ag dg ak as es eg np ng ck cs kv sv KI SI).Ok f r K S sd) : (getL (PySem.Str.ofString "side") es).isSome = true := by
  obtain ⟨t, h⟩ := ok.side
  rw [h]; rfl
theorem PosRec.Ok.sideZ {dp ag dg ak as : Addr} {es eg : List DictEntry} {np ng ck cs : Nat} {kv sv : List Value} {KI SI : List Int} {f r : Nat} {K S : Nat → Nat} {sd : Nat} (ok : (PosRec.mk dp ag dg ak as es eg np ng ck cs kv sv KI SI).Ok f r K S sd) {hsh : Int} {key v : Value} : (putL (PySem.Str.ofString "side") hsh key v es).length ≤ 1000 := by
  obtain ⟨t, h⟩ := ok.side
  rw [(putL_getL_same h).2]
  exact Nat.le_trans ok.short (by decide)



end
-- part E0
example : True := by w_top off; trivial
section
theorem BoardAt.base {h₀ h : Heap} {L ab : Addr} {m : PySem.Str → Option Value} {bs : List Int} (x : BoardAt h₀ ab bs) (F : Fr h₀ L h m) : BoardAt h ab bs := x.keeps F.keep
theorem News.tl {h₀ h : Heap} {L : Addr} {p : Addr × Obj} {l : List (Addr × Obj)} (N : News h₀ L h (p :: l)) : News h₀ L h l := fun q hq => N q (.tail _ hq)
end
local macro_rules | `(tactic| walk_at "CompSrcT") => `(tactic| refine Stop.of ?_)
local macro_rules | `(tactic| walk_at "CompSrc") => `(tactic| refine Stop.of ?_)
section
theorem PosAt.of6 {h₀ h : Heap} {L ap : Addr} {news : List (Addr × Obj)} {f r : Nat} {K S : Nat → Nat} {sd : Nat} {P : PosRec} (ok : P.Ok f r K S sd) (N : News h₀ L h news) (h1 : (ap, instObj 144 P.dp) ∈ news) (h2 : (P.dp, dictOf P.es P.np) ∈ news) (h3 : (P.ag, instObj 123 P.dg) ∈ news) (h4 : (P.dg, dictOf P.eg P.ng) ∈ news) (h5 : (P.ak, listOf P.kv.toArray P.ck) ∈ news) (h6 : (P.as, listOf P.sv.toArray P.cs) ∈ news) :
    PosAt h ap f r K S sd := by
  refine ⟨P, fun p hp => (N p ?_).1, ok⟩
  simp only [PosRec.news, List.mem_cons, List.not_mem_nil, or_false] at hp
  rcases hp with rfl | rfl | rfl | rfl | rfl | rfl <;> assumption
theorem HvAt.of {h₀ h : Heap} {L a : Addr} {news : List (Addr × Obj)} {x y : Int} {t1 t2 : Tok} {n : Nat} (N : News h₀ L h news) (hm : (a, listOf #[.int x t1, .int y t2] n) ∈ news) : HvAt h a x y := ⟨n, t1, t2, (N _ hm).1⟩
theorem MenAt.of {h₀ h : Heap} {L a r0 r1 : Addr} {news : List (Addr × Obj)} {v0 v1 : List Value} {M0 M1 : List Int} {n n0 n1 : Nat} (N : News h₀ L h news) (hm : (a, listOf #[.ref r0, .ref r1] n) ∈ news) (h0 : (r0, listOf v0.toArray n0) ∈ news) (h1 : (r1, listOf v1.toArray n1) ∈ news) (i0 : IntsAre v0 M0) (i1 : IntsAre v1 M1) : MenAt h a M0 M1 :=
  ⟨r0, r1, n, n0, n1, v0, v1, (N _ hm).1, (N _ h0).1, (N _ h1).1, i0, i1⟩
theorem sumN {prog : Program} {w : World} {A : Around} {E : Value → Shared → Prop} {s : Shared} {h₀ : Heap} {L : Addr} {m : PySem.Str → Option Value} {news : List (Addr × Obj)} {l : Addr} {vs : List Value} {ns : List Int} {n : Nat} {Q : Value → Shared → Prop} (hh : A.handled = none) (F : Fr h₀ L s.heap m) (N : News h₀ L s.heap news) (hm : (l, listOf vs.toArray n) ∈ news) (hi : IntsAre vs ns)
    (h : ∀ h' tk t', Fr h₀ L h' m → News h₀ L h' news → Q (.int ns.sum t') { s with heap := h', toks := tk }) :
    wpAny (model prog w) A (call (.builtin "sum") [.ref l]) Q E s := sumK hh F N (isList_of (N _ hm).1) hi h
theorem lenN {prog : Program} {w : World} {A : Around} {E : Value → Shared → Prop} {s : Shared} {h₀ : Heap} {L : Addr} {news : List (Addr × Obj)} {l : Addr} {vs : List Value} {ns : List Int} {n : Nat} {Q : Value → Shared → Prop} (N : News h₀ L s.heap news) (hm : (l, listOf vs.toArray n) ∈ news) (hi : IntsAre vs ns) (hb : ns.length ≤ 64)
    (h : Q (.int (ns.length : Int) (s.toks + 1)) { s with toks := s.toks + 1 + 1 }) :
    wpAny (model prog w) A (call (.builtin "len") [.ref l]) Q E s :=
  len_list_made (isList_of (N _ hm).1) (ke_carried hi) (by rw [List.length_map]; exact Nat.le_trans hb (by decide)) (by rw [List.length_map]; exact h)
theorem phase_told {f r : Nat} {a b x y : Int} (h1 : x = a) (h2 : y = b) : phaseV f r x y = phaseV f r a b := by rw [h1, h2]
end
section
/-- no entry of the ledger lies at d -/
noncomputable def NeD (d : Addr) (l : List (Addr × Obj)) : Prop := ∀ p ∈ l, p.1 ≠ d
theorem NeD.cons {d : Addr} {p : Addr × Obj} {l : List (Addr × Obj)} (h : p.1 ≠ d) (hl : NeD d l) : NeD d (p :: l) := fun q hq => by
  rcases List.mem_cons.mp hq with rfl | hq
  · exact h
  · exact hl q hq
theorem ne_two {prog : Program} {w : World} {A : Around} {E : Value → Shared → Prop} {s : Shared} {h₀ : Heap} {L : Addr} {news : List (Addr × Obj)} {a a0 a1 b b0 b1 : Addr} {x0 x1 y0 y1 : List Value} {na k0 k1 nb l0 l1 : Nat} {p0 p1 q0 q1 : List Int} {Q : Value → Shared → Prop}
    (N : News h₀ L s.heap news) (ma : (a, listOf #[.ref a0, .ref a1] na) ∈ news) (m0 : (a0, listOf x0.toArray k0) ∈ news) (m1 : (a1, listOf x1.toArray k1) ∈ news) (mb : (b, listOf #[.ref b0, .ref b1] nb) ∈ news) (n0 : (b0, listOf y0.toArray l0) ∈ news) (n1 : (b1, listOf y1.toArray l1) ∈ news)
    (i0 : IntsAre x0 p0) (i1 : IntsAre x1 p1) (j0 : IntsAre y0 q0) (j1 : IntsAre y1 q1) (e0 : p0 = q0) (e1 : p1 = q1) (hu : A.units + 64 < cLine) (h : Q (.bool false) s) : wpAny (model prog w) A (compareOp .NotEq (.ref a) (.ref b)) Q E s := by
  subst e0; subst e1
  have sh : SeqAt.shaped (.list [.list (p0.map PyData.int), .list (p1.map PyData.int)]) = true := by
    simp [SeqAt.shaped, PyData.canLay0, PyData.canLayAll0, PyData.depth, PyData.depthAll, ke_canLayAll0, ke_depthAll]
  have r (z : Addr) (z0 z1 : Addr) (u0 u1 : List Value) (c c0 c1 : Nat) (h1 : (z, listOf #[.ref z0, .ref z1] c) ∈ news) (h2 : (z0, listOf u0.toArray c0) ∈ news) (h3 : (z1, listOf u1.toArray c1) ∈ news) (w0 : IntsAre u0 p0) (w1 : IntsAre u1 p1) :
      Reads s.heap (.ref z) (.list [.list (p0.map PyData.int), .list (p1.map PyData.int)]) (z :: ([z0] ++ ([z1] ++ []))) :=
    reads_list_at (N _ h1).1 rfl rfl (.cons (reads_newData (isList_of (N _ h2).1) (ke_carried w0)) (.cons (reads_newData (isList_of (N _ h3).1) (ke_carried w1)) .nil))
  refine ne_dataH (r _ _ _ _ _ _ _ _ ma m0 m1 i0 i1) (r _ _ _ _ _ _ _ _ mb n0 n1 j0 j1) sh sh hu ?_
  simp only [PyData.eqv, PyData.eqvAll, ked_eqvAll, decide_true, Bool.and_true, Bool.not_true]
  exact h
theorem rowL_men (bs : List Int) (c : Nat) {M : List Int} (hM : M = menL bs (c : Int)) : ((List.range 6).map fun k => ((rowc (KB bs) (SB bs) c k : Nat) : Int)) = [if decide (1 < ((List.count 3 M : Nat) : Int)) = true then (1 : Int) else 0] ++ (rangeKs 1 5).map (fun k => ((List.count k M : Nat) : Int)) := by
  subst hM
  have e : (List.range 6) = [0, 1, 2, 3, 4, 5] := rfl
  have e2 : rangeKs 1 5 = [1, 2, 3, 4, 5] := rfl
  rw [e, e2]
  simp only [List.map_cons, List.map_nil, List.cons_append, List.nil_append]
  rw [rowc_men0, rowc_men _ _ 1 (by decide), rowc_men _ _ 2 (by decide), rowc_men _ _ 3 (by decide), rowc_men _ _ 4 (by decide), rowc_men _ _ 5 (by decide)]
  congr 1
  by_cases h : 1 < List.count 3 (menL bs (c : Int))
  · rw [if_pos h, if_pos (by rw [decide_eq_true_eq]; omega)]; rfl
  · rw [if_neg h, if_neg (by rw [decide_eq_true_eq]; omega)]; rfl
theorem set_side {w : World} {A : Around} {E : Value → Shared → Prop} {s : Shared} {h₀ : Heap} {L ap dp ag dg ak as i d : Addr} {m : PySem.Str → Option Value} {es eg : List DictEntry} {np ng ck cs : Nat} {kv sv : List Value} {KI SI : List Int} {f r : Nat} {K S : Nat → Nat} {sd c : Nat} {v : Int} {t : Tok} {it tu : Obj} {e1 e2 e3 e4 e5 : Addr × Obj} {post : List (Addr × Obj)} {Q : Unit → Shared → Prop}
    (F : Fr h₀ L s.heap m) (X : (hd.heap_1 w.params).In h₀) (N : News h₀ L s.heap ((i, it) :: (d, tu) :: e1 :: e2 :: e3 :: e4 :: e5 :: (ap, instObj 144 dp) :: (dp, dictOf es np) :: post)) (ci : it.cls = .type "tuple_iterator") (ct : tu.cls = .type "tuple")
    (ne : NeD dp (e1 :: e2 :: e3 :: e4 :: e5 :: (ap, instObj 144 dp) :: post)) (ok : (PosRec.mk dp ag dg ak as es eg np ng ck cs kv sv KI SI).Ok f r K S sd) (hv : v = (c : Int))
    (h : ∀ h' es' np', (PosRec.mk dp ag dg ak as es' eg np' ng ck cs kv sv KI SI).Ok f r K S c → Fr h₀ L h' m → News h₀ L h' ((i, it) :: (d, tu) :: e1 :: e2 :: e3 :: e4 :: e5 :: (ap, instObj 144 dp) :: (dp, dictOf es' np') :: post) → Q () { s with heap := h', toks := s.toks + 2 }) :
    wpAny (model PR w) A (setAttr (.ref ap) (PySem.Str.ofString "side") (.int v t)) Q E s := by
  subst hv
  have hD := (N (dp, dictOf es np) (.tail _ (.tail _ (.tail _ (.tail _ (.tail _ (.tail _ (.tail _ (.tail _ (.head _)))))))))).1
  have ni : i ≠ dp := fun e => by
    have h1 := (N (i, it) (.head _)).1
    rw [e, hD] at h1
    cases h1
    have c2 : Value.type "dict" = Value.type "tuple_iterator" := ci
    exact absurd (Value.type.inj c2) (by decide)
  have nd : d ≠ dp := fun e => by
    have h1 := (N (d, tu) (.tail _ (.head _))).1
    rw [e, hD] at h1
    cases h1
    have c2 : Value.type "dict" = Value.type "tuple" := ct
    exact absurd (Value.type.inj c2) (by decide)
  have U (es' : List DictEntry) (n' : Nat) : Upd dp (dictOf es np) (dictOf es' n') ((i, it) :: (d, tu) :: e1 :: e2 :: e3 :: e4 :: e5 :: (ap, instObj 144 dp) :: (dp, dictOf es np) :: post) ((i, it) :: (d, tu) :: e1 :: e2 :: e3 :: e4 :: e5 :: (ap, instObj 144 dp) :: (dp, dictOf es' n') :: post) :=
    .tail ni (.tail nd (.tail (ne _ (.head _)) (.tail (ne _ (.tail _ (.head _))) (.tail (ne _ (.tail _ (.tail _ (.head _)))) (.tail (ne _ (.tail _ (.tail _ (.tail _ (.head _))))) (.tail (ne _ (.tail _ (.tail _ (.tail _ (.tail _ (.head _)))))) (.tail (ne _ (.tail _ (.tail _ (.tail _ (.tail _ (.tail _ (.head _))))))) (.head fun p hp => ne p (.tail _ (.tail _ (.tail _ (.tail _ (.tail _ (.tail _ (hp)))))))))))))))
  refine' set_dict F X N (InstAt.of_news N (.tail _ (.tail _ (.tail _ (.tail _ (.tail _ (.tail _ (.tail _ (.head _)))))))) (.tail _ (.tail _ (.tail _ (.tail _ (.tail _ (.tail _ (.tail _ (.tail _ (.head _)))))))))) rfl ?k6 ?k7 ?k8 ?k9 ok.sideL rfl (U _ _) ok.sideZ ?_
  case k6 => k_is
  case k7 => k_is
  case k8 => k_is
  case k9 => k_is
  intro h' F' N'
  exact h h' _ _ (ok.setSide _ _ c t _) F' N'



end
-- part E1
example : True := by w_top off; trivial
section
theorem lone_eq {x : Nat} {M : List Int} (h : x = M.length) : (decide (x = 1) != (((M.length : Nat) : Int) == 1)) = false := by
  subst h
  by_cases h : M.length = 1
  · rw [h]; rfl
  · rw [decide_eq_false h, show (((M.length : Nat) : Int) == 1) = false from beq_false_of_ne (by omega)]; rfl
theorem strong_eq {a b : Int} : ((if 0 < a - b then (0 : Int) else 1) == if decide (b < a) = true then 0 else 1) = true := by
  by_cases h : b < a
  · rw [if_pos (by omega), if_pos (by rw [decide_eq_true_eq]; exact h)]; rfl
  · rw [if_neg (by omega), if_neg (by rw [decide_eq_true_eq]; exact h)]; rfl
set_option maxHeartbeats 3000000 in
theorem stage_D (w : World) (f r : Nat) (t1 t2 : Tok) (ab : Addr) (bs : List Int) (hb : Bd f r bs) : CutAt w 193 6 fun rest qual scope cdv => ∀ {mean : ExcName → Option Value} {mg mb : PySem.Str → Option Value} {dp' un : Nat} {gd : Option (List Code)} {outer : List Env} {A₀ : Around} {base g h : Heap} {L : Addr} {tk : Nat} {s : Shared} {ap dp ag dg ak as am r0 r1 : Addr} {es eg : List DictEntry} {np ng ck cs nm n0 n1 : Nat} {kv sv v0 v1 : List Value} {KI SI M0 M1 : List Int} {oc : Obj} {au ah : Addr} {nu nh : Nat} {x0 x1 y0 y1 : Int} {tx0 tx1 ty0 ty1 : Tok} {ob : Bool}, Below A₀ base outer g → Fr g L h (fun y => if y = Str.ofString "opposite" then some (Value.bool ob) else if y = Str.ofString "heavy" then some (Value.ref ah) else if y = Str.ofString "sums" then some (Value.ref au) else if y = Str.ofString "men" then some (Value.ref am) else if y = Str.ofString "pos" then some (Value.ref ap) else bindL (envOfC qual scope L 193 cdv).kindOf [(Str.ofString "files", .int (f : Int) t1), (Str.ofString "ranks", .int (r : Int) t2), (Str.ofString "board", .ref ab)] (fun _ => none) y) → (hd.heap_1 w.params).In g →
    (PosRec.mk dp ag dg ak as es eg np ng ck cs kv sv KI SI).Ok f r (KB bs) (SB bs) 0 → oc.data = .cell (some (.ref ab)) →
    News g L h [(ah, listOf #[.int y0 ty0, .int y1 ty1] nh), (au, listOf #[.int x0 tx0, .int x1 tx1] nu), (am, listOf #[.ref r0, .ref r1] nm), (r0, listOf v0.toArray n0), (r1, listOf v1.toArray n1), (ap, instObj 144 dp), (dp, dictOf es np), (ag, instObj 123 dg), (dg, dictOf eg ng), (ak, listOf kv.toArray ck), (as, listOf sv.toArray cs), (L + 1, oc)] → Top topView (looseW topView [PySem.Str.ofString "PIECE_VALUES"]) mean mg mb g → BoardAt g ab bs →
    IntsAre v0 M0 → IntsAre v1 M1 → M0 = menL bs 0 → M1 = menL bs 1 → x0 = (M0.map pv).sum → x1 = (M1.map pv).sum → y0 = (M0.foldl hvG []).sum → y1 = (M1.foldl hvG []).sum → ob = ((decide (colL f bs 0 bs.length = [0]) && decide (colL f bs 1 bs.length = [1])) || (decide (colL f bs 0 bs.length = [1]) && decide (colL f bs 1 bs.length = [0]))) → NeD dp [(ah, listOf #[.int y0 ty0, .int y1 ty1] nh), (au, listOf #[.int x0 tx0, .int x1 tx1] nu), (am, listOf #[.ref r0, .ref r1] nm), (r0, listOf v0.toArray n0), (r1, listOf v1.toArray n1), (ap, instObj 144 dp), (ag, instObj 123 dg), (dg, dictOf eg ng), (ak, listOf kv.toArray ck), (as, listOf sv.toArray cs), (L + 1, oc)] → dp' + 30 < recursionLimit → un + 8 * 30 < cLine →
    wpAny (model PySem.Challenge.rw_nt0419_01.row.prog w) (ktrTop (dp' + 1) (un + 3) gd qual scope L 193 cdv (cellsFrom (L + 1) scope.names []) outer) (execs rest (envOfC qual scope L 193 cdv)) (BodyQ (fun v tl => tl = [] ∧ v = .bool true) g L s) (fun _ _ => False) { s with heap := h, toks := tk } := by
  refine' CutAt.of ?ho ?_
  case ho => k_is
  dsimp only [List.drop]
  intro mean mg mb dp' un gd outer A₀ base g h L tk s ap dp ag dg ak as am r0 r1 es eg np ng ck cs nm n0 n1 kv sv v0 v1 KI SI M0 M1 oc au ah nu nh x0 x1 y0 y1 tx0 tx1 ty0 ty1 ob B F X ok hoc N T hpre i0 i1 hM0 hM1 hx0 hx1 hy0 hy1 hob hne hdd huu
  refine letAE ?_
  intro A9 e9
  have sm9 := stMark s
  obtain ⟨hf1, hf2, hr1, hr2, hlen, hent, _, _⟩ := id hb
  obtain ⟨hc, hn1, hn2, hn3, hn4⟩ := fr_bounds hf1 hf2 hr1 hr2
  have hE0 : ∀ x ∈ M0, 1 ≤ x ∧ x ≤ 6 := by rw [hM0]; exact menL_ent hb 0
  have hE1 : ∀ x ∈ M1, 1 ≤ x ∧ x ≤ 6 := by rw [hM1]; exact menL_ent hb 1
  have hLen : M0.length + M1.length ≤ bs.length := by rw [hM0, hM1]; exact menL_len bs
  have hob' : oppV (KB bs) (SB bs) f (f * r) = ob := by rw [hob]; exact opp_men hb
  have w20 : worth 2 (rowc (KB bs) (SB bs) 0) = y0 := by rw [hy0, hM0]; exact worth2_men hb 0
  have w21 : worth 2 (rowc (KB bs) (SB bs) 1) = y1 := by rw [hy1, hM1]; exact worth2_men hb 1
  have w10 : worth 1 (rowc (KB bs) (SB bs) 0) = x0 := by rw [hx0, hM0]; exact worth1_men hb 0
  have w11 : worth 1 (rowc (KB bs) (SB bs) 1) = x1 := by rw [hx1, hM1]; exact worth1_men hb 1
  have hL64 : M0.length + M1.length ≤ 64 := by omega
  have hl0 : M0.length ≤ 64 := by omega
  have hl1 : M1.length ≤ 64 := by omega
  have hopp : ob = true → (menL bs 0).count 3 = 1 ∧ (menL bs 1).count 3 = 1 := by
    intro ho
    rw [hob] at ho
    have c0 := col_count f bs 0
    have c1 := col_count f bs 1
    simp only [Bool.or_eq_true, Bool.and_eq_true, decide_eq_true_eq] at ho
    rcases ho with ⟨h1, h2⟩ | ⟨h1, h2⟩
    · rw [h1] at c0; rw [h2] at c1; exact ⟨c0, c1⟩
    · rw [h1] at c0; rw [h2] at c1; exact ⟨c0, c1⟩
  have hq0 : LQ M0 M1 ob y0 y1 := by rw [hM0, hM1, hy0, hy1, hM0, hM1]; exact LQ_men hb hopp (.inl ⟨rfl, rfl⟩)
  have hq1 : LQ M0 M1 ob y1 y0 := by rw [hM0, hM1, hy0, hy1, hM0, hM1]; exact LQ_men hb hopp (.inr ⟨rfl, rfl⟩)
  clear hopp
  have rc0 : ((rowc (KB bs) (SB bs) 0 1 : Nat) : Int) = ((List.count 1 M0 : Nat) : Int) := by rw [rowc_men bs 0 1 (by decide), hM0]; rfl
  have rc1 : ((rowc (KB bs) (SB bs) 1 1 : Nat) : Int) = ((List.count 1 M1 : Nat) : Int) := by rw [rowc_men bs 1 1 (by decide), hM1]; rfl
  have ps0 : pc (SB bs 0) = M0.length := by rw [hM0]; exact pc_S bs 0
  have ps1 : pc (SB bs 1) = M1.length := by rw [hM1]; exact pc_S bs 1
  have q1 : worth 1 (rowc (KB bs) (SB bs) 0) - worth 1 (rowc (KB bs) (SB bs) (1 - 0)) = x0 - x1 := by show worth 1 (rowc (KB bs) (SB bs) 0) - worth 1 (rowc (KB bs) (SB bs) 1) = _; rw [w10, w11]
  have q2 : worth 1 (rowc (KB bs) (SB bs) 1) - worth 1 (rowc (KB bs) (SB bs) (1 - 1)) = x1 - x0 := by show worth 1 (rowc (KB bs) (SB bs) 1) - worth 1 (rowc (KB bs) (SB bs) 0) = _; rw [w10, w11]
  have q3 : scaleV (worth 2 (rowc (KB bs) (SB bs) 0)) (worth 2 (rowc (KB bs) (SB bs) (1 - 0))) ((rowc (KB bs) (SB bs) 0 1 : Nat) : Int) (oppV (KB bs) (SB bs) f (f * r)) ((pc (SB bs 0) : Nat) : Int) = scaleV y0 y1 ((List.count 1 M0 : Nat) : Int) ob ((M0.length : Nat) : Int) := by
    show scaleV (worth 2 (rowc (KB bs) (SB bs) 0)) (worth 2 (rowc (KB bs) (SB bs) 1)) _ _ _ = _
    rw [w20, w21, rc0, hob', ps0]
  have q4 : scaleV (worth 2 (rowc (KB bs) (SB bs) 1)) (worth 2 (rowc (KB bs) (SB bs) (1 - 1))) ((rowc (KB bs) (SB bs) 1 1 : Nat) : Int) (oppV (KB bs) (SB bs) f (f * r)) ((pc (SB bs 1) : Nat) : Int) = scaleV y1 y0 ((List.count 1 M1 : Nat) : Int) ob ((M1.length : Nat) : Int) := by
    show scaleV (worth 2 (rowc (KB bs) (SB bs) 1)) (worth 2 (rowc (KB bs) (SB bs) 0)) _ _ _ = _
    rw [w20, w21, rc1, hob', ps1]
  have q5 := lone_eq ps0
  have q6 := lone_eq ps1
  clear rc0 rc1 ps0 ps1
  repeat' (first | (k_unfold; (try dsimp only)) | ((with_reducible show wpAny _ _ (subscriptTail (PySem.Expr.Name _ _) (PySem.Expr.BinOp _ _ _ _) (Value.ref _) (Value.int _ _)) _ _ _); first | with_reducible (((k_here; (with_reducible show wpAny _ _ (subscriptTail _ _ (Value.ref _) (Value.int _ _)) _ _ _); k_dflt (refine' made_item ?z_N ?z_m ?z_a ?z_x ?_ ?z_s; (case z_N => k_asm); (case z_m => k_mem); (case z_a => rfl); (case z_x => rfl); (case z_s => with_unfolding_all rfl); k_whole))))) | ((with_reducible show wpAny _ _ (subscriptTail (PySem.Expr.Name _ _) (PySem.Expr.Constant _ _ _) (Value.ref _) (Value.int _ _)) _ _ _); first | with_reducible (((k_here; (with_reducible show wpAny _ _ (subscriptTail _ _ (Value.ref _) (Value.int _ _)) _ _ _); k_dflt (refine' made_item ?z_N ?z_m ?z_a ?z_x ?_ ?z_s; (case z_N => k_asm); (case z_m => k_mem); (case z_a => rfl); (case z_x => rfl); (case z_s => with_unfolding_all rfl); k_whole))))) | ((with_reducible show wpAny _ _ (subscriptTail (PySem.Expr.Name _ _) (PySem.Expr.Name _ _) (Value.ref _) (Value.int _ _)) _ _ _); first | with_reducible (((k_here; (with_reducible show wpAny _ _ (subscriptTail _ _ (Value.ref _) (Value.int _ _)) _ _ _); k_dflt (refine' made_item ?z_N ?z_m ?z_a ?z_x ?_ ?z_s; (case z_N => k_asm); (case z_m => k_mem); (case z_a => rfl); (case z_x => rfl); (case z_s => with_unfolding_all rfl); k_whole))))) | ((with_reducible show wpAny _ _ (call (Value.ref _) _) _ _ _); first | with_reducible ((k_here; (with_reducible show wpAny _ _ (call (Value.ref 181) _) _ _ _); k_dflt ((first | refine' Spec.useI (law_factor_spec _ _ _ _ _ _ _ 0 _ _ _ (by exact rfl) ?z_hlen _ _ _ (.inl ⟨rfl, rfl, rfl, rfl⟩) ?z_hq) ?z_B ?z_F ?z_X ?z_N ?z_T ?z_hk ?z_hd ?z_hu ?z_hp ?_ | refine' Spec.useI (law_factor_spec _ _ _ _ _ _ _ 1 _ _ _ (by exact rfl) ?z_hlen _ _ _ (.inr ⟨rfl, rfl, rfl, rfl⟩) ?z_hq) ?z_B ?z_F ?z_X ?z_N ?z_T ?z_hk ?z_hd ?z_hu ?z_hp ?_); (((case z_F => k_asm); (case z_N => k_asm); (case z_B => k_asm); (case z_X => k_asm); (case z_T => k_asm); (case z_hk => rfl); (case z_hd => first | exact roomD (by with_reducible assumption) rfl | omega); (case z_hu => first | exact roomU (by with_reducible assumption) rfl | omega))); (case z_hp => exact ⟨MenAt.of (by k_asm) (by k_mem) (by k_mem) (by k_mem) (by with_reducible assumption) (by with_reducible assumption), HvAt.of (by k_asm) (by k_mem)⟩); (case z_hlen => with_reducible assumption); (case z_hq => with_reducible assumption)); (intro t9z h9z tk9z F9z N9z))) | with_reducible ((k_here; (with_reducible show wpAny _ _ (call (Value.ref 188) _) _ _ _); k_dflt (refine' Spec.useE (law_in_phase_spec _ _ _ _ _ _ _ _ _ _ ?z_hb ?z_ht) ?z_B ?z_F ?z_X ?z_N ?z_T ?z_hk ?z_hd ?z_hu ?z_hp ?_; (case z_hb => with_reducible assumption); (case z_ht => exact phase_told (by with_reducible assumption) (by with_reducible assumption)); (((case z_F => k_asm); (case z_N => k_asm); (case z_B => k_asm); (case z_X => k_asm); (case z_T => k_asm); (case z_hk => rfl); (case z_hd => first | exact roomD (by with_reducible assumption) rfl | omega); (case z_hu => first | exact roomU (by with_reducible assumption) rfl | omega))); (case z_hp => exact ⟨BoardAt.base (by with_reducible assumption) (by with_reducible assumption), HvAt.of (by k_asm) (by k_mem)⟩)); (intro h9z tk9z F9z N9z))) | with_reducible ((k_here; (with_reducible show wpAny _ _ (call (Value.ref 99) _) _ _ _); k_dflt (refine' Spec.useI (strong_side_spec _ _ _) ?z_B ?z_F ?z_X ?z_N ?z_T ?z_hk ?z_hd ?z_hu ?z_hp ?_; (((case z_F => k_asm); (case z_N => k_asm); (case z_B => k_asm); (case z_X => k_asm); (case z_T => k_asm); (case z_hk => rfl); (case z_hd => first | exact roomD (by with_reducible assumption) rfl | omega); (case z_hu => first | exact roomU (by with_reducible assumption) rfl | omega))); (case z_hp => trivial)); (intro t9z h9z tk9z F9z N9z))) | with_reducible ((k_here; (with_reducible show wpAny _ _ (call (Value.ref 92) _) _ _ _); k_dflt (refine' Spec.useI (scale_factor_spec _ _ _ _ _ _ _ _ _ _ ?z_c1 ?z_c2) ?z_B ?z_F ?z_X ?z_N ?z_T ?z_hk ?z_hd ?z_hu ?z_hp ?_; (case z_c1 => first | exact (rfl : _ = ((0 : Nat) : Int)) | exact (rfl : _ = ((1 : Nat) : Int))); (case z_c2 => first | exact .inl rfl | exact .inr rfl); (((case z_F => k_asm); (case z_N => k_asm); (case z_B => k_asm); (case z_X => k_asm); (case z_T => k_asm); (case z_hk => rfl); (case z_hd => first | exact roomD (by with_reducible assumption) rfl | omega); (case z_hu => first | exact roomU (by with_reducible assumption) rfl | omega))); ((case z_hp => exact PosAt.of6 (by with_reducible assumption) (by k_asm) (by k_mem) (by k_mem) (by k_mem) (by k_mem) (by k_mem) (by k_mem)))); (intro t9z h9z tk9z F9z N9z))) | with_reducible ((k_here; (with_reducible show wpAny _ _ (call (Value.ref 106) _) _ _ _); k_dflt (refine' Spec.useE (is_lone_king_spec _ _ _ _ _ _ _ _ _ _ ?z_c1 ?z_c2) ?z_B ?z_F ?z_X ?z_N ?z_T ?z_hk ?z_hd ?z_hu ?z_hp ?_; (case z_c1 => first | exact (rfl : _ = ((0 : Nat) : Int)) | exact (rfl : _ = ((1 : Nat) : Int))); (case z_c2 => decide); (((case z_F => k_asm); (case z_N => k_asm); (case z_B => k_asm); (case z_X => k_asm); (case z_T => k_asm); (case z_hk => rfl); (case z_hd => first | exact roomD (by with_reducible assumption) rfl | omega); (case z_hu => first | exact roomU (by with_reducible assumption) rfl | omega))); ((case z_hp => exact PosAt.of6 (by with_reducible assumption) (by k_asm) (by k_mem) (by k_mem) (by k_mem) (by k_mem) (by k_mem) (by k_mem)))); (intro h9z tk9z F9z N9z))) | with_reducible ((k_here; (with_reducible show wpAny _ _ (call (Value.ref 64) _) _ _ _); k_dflt (refine' Spec.useI (non_pawn_value_spec _ _ _ _ _ _ _ _ _ _ ?z_c1 ?z_c2) ?z_B ?z_F ?z_X ?z_N ?z_T ?z_hk ?z_hd ?z_hu ?z_hp ?_; (case z_c1 => first | exact (rfl : _ = ((0 : Nat) : Int)) | exact (rfl : _ = ((1 : Nat) : Int))); (case z_c2 => first | exact .inl rfl | exact .inr rfl); (((case z_F => k_asm); (case z_N => k_asm); (case z_B => k_asm); (case z_X => k_asm); (case z_T => k_asm); (case z_hk => rfl); (case z_hd => first | exact roomD (by with_reducible assumption) rfl | omega); (case z_hu => first | exact roomU (by with_reducible assumption) rfl | omega))); ((case z_hp => exact PosAt.of6 (by with_reducible assumption) (by k_asm) (by k_mem) (by k_mem) (by k_mem) (by k_mem) (by k_mem) (by k_mem)))); (intro t9z h9z tk9z F9z N9z))) | with_reducible ((k_here; (with_reducible show wpAny _ _ (call (Value.ref 57) _) _ _ _); k_dflt (refine' Spec.useI (material_value_spec _ _ _ _ _ _ _ ?z_c2) ?z_B ?z_F ?z_X ?z_N ?z_T ?z_hk ?z_hd ?z_hu ?z_hp ?_; (((case z_F => k_asm); (case z_N => k_asm); (case z_B => k_asm); (case z_X => k_asm); (case z_T => k_asm); (case z_hk => rfl); (case z_hd => first | exact roomD (by with_reducible assumption) rfl | omega); (case z_hu => first | exact roomU (by with_reducible assumption) rfl | omega))); ((case z_hp => exact PosAt.of6 (by with_reducible assumption) (by k_asm) (by k_mem) (by k_mem) (by k_mem) (by k_mem) (by k_mem) (by k_mem))); (case z_c2 => first | exact .inl rfl | exact .inr rfl)); (intro t9z h9z tk9z F9z N9z))) | with_reducible ((k_here; (with_reducible show wpAny _ _ (call (Value.ref 71) _) _ _ _); k_dflt (refine' Spec.useI (phase_of_spec _ _ _ _ _ _ _) ?z_B ?z_F ?z_X ?z_N ?z_T ?z_hk ?z_hd ?z_hu ?z_hp ?_; (((case z_F => k_asm); (case z_N => k_asm); (case z_B => k_asm); (case z_X => k_asm); (case z_T => k_asm); (case z_hk => rfl); (case z_hd => first | exact roomD (by with_reducible assumption) rfl | omega); (case z_hu => first | exact roomU (by with_reducible assumption) rfl | omega))); ((case z_hp => exact PosAt.of6 (by with_reducible assumption) (by k_asm) (by k_mem) (by k_mem) (by k_mem) (by k_mem) (by k_mem) (by k_mem)))); (intro t9z h9z tk9z F9z N9z))) | with_reducible ((k_here; (with_reducible show wpAny _ _ (call (Value.ref 85) _) _ _ _); k_dflt (refine' Spec.useE (has_opposite_bishops_spec _ _ _ _ _ _ _) ?z_B ?z_F ?z_X ?z_N ?z_T ?z_hk ?z_hd ?z_hu ?z_hp ?_; (((case z_F => k_asm); (case z_N => k_asm); (case z_B => k_asm); (case z_X => k_asm); (case z_T => k_asm); (case z_hk => rfl); (case z_hd => first | exact roomD (by with_reducible assumption) rfl | omega); (case z_hu => first | exact roomU (by with_reducible assumption) rfl | omega))); ((case z_hp => exact PosAt.of6 (by with_reducible assumption) (by k_asm) (by k_mem) (by k_mem) (by k_mem) (by k_mem) (by k_mem) (by k_mem)))); (intro h9z tk9z F9z N9z)))) | ((with_reducible show wpAny _ _ (setAttr (Value.ref _) _ _) _ _ _); first | with_reducible ((k_here; k_dflt (refine' set_side ?z_F ?z_X ?z_N ?z_ci ?z_ct ?z_ne ?z_ok ?z_hv ?_; (case z_F => with_reducible assumption); (case z_X => with_reducible assumption); (case z_N => with_reducible assumption); (case z_ci => with_reducible assumption); (case z_ct => rfl); (case z_ne => with_reducible assumption); (case z_ok => with_reducible assumption); (case z_hv => first | exact (rfl : _ = ((0 : Nat) : Int)) | exact (rfl : _ = ((1 : Nat) : Int)))); intro h'z es'z np'z ok'z F'z N'z))) | ((with_reducible show wpAny _ _ (pyIter (Value.ref _)) _ _ _); first | with_reducible ((k_here; (with_reducible show wpAny _ _ (pyIter (Value.ref _)) (fun it s₂ => TurnsAt _ _ _ _ _ _ _ _ _ it s₂) _ _); ktu_seq))) | ((with_reducible show wpAny _ _ (call (Value.builtin "len") _) _ _ _); first | with_reducible (((with_reducible show wpAny _ _ (call (Value.builtin _) [Value.ref _]) _ _ _); k_dflt (refine' lenN ?z_N ?z_m ?z_i ?z_b ?_; (case z_N => with_reducible assumption); (case z_m => k_mem); (case z_i => with_reducible assumption); (case z_b => with_reducible assumption))))) | ((with_reducible show wpAny _ _ (execs (_ :: _) _) _ _ _); first | with_reducible (first | k_fold | ((with_reducible refine wpAny_execs_cons ?_); try dsimp only))) | ((with_reducible show wpAny _ _ (eval (PySem.Expr.Call _ _ _ _) _) _ _ _); first | with_reducible ((k_here; (with_reducible show wpAny _ _ (eval (PySem.Expr.Call (PySem.Expr.Name _ _) (PySem.Expr.Name _ _ :: _) [] _) _) _ _ _); k_dflt (rename Fr _ _ _ _ => F8z; refine' callV F8z ?z_X ?z_f ?z_k ?z_a rfl ?_; (case z_X => k_asm); (case z_f => walk_at "mine vv"); (case z_k => k_is); (case z_a => walk_at "mine av")))) | with_reducible (k_fold)) | ((with_reducible show wpAny _ _ (isTrue (PySem.Expr.Compare _ _ _ _) _ _) _ _ _); first | with_reducible (k_fold)) | ((with_reducible show wpAny _ _ (eval (PySem.Expr.Subscript _ _ _) _) _ _ _); first | with_reducible (k_fold)) | ((with_reducible show wpAny _ _ (eval (PySem.Expr.BinOp _ _ _ _) _) _ _ _); first | with_reducible (k_fold)) | ((with_reducible show PySem.W.UnrEndW _ _ _ _ _ _); first | ((k_here; k_dflt (refine' unrEndW_rem ?z_F ?z_N ?z_R ?_; (case z_F => (rename Fr _ _ _ _ => F9z; exact F9z)); (case z_N => (rename News _ _ _ _ => N9z; exact N9z)); (case z_R => exact Rem.head (allLt_ne (by (simp only [AllLt, and_true]); with_reducible assumption))); refine ⟨by k_subL, ?_⟩)))) | ((with_reducible show ite _ _ _); first | with_reducible (refine ifexp_const ?_)) | ((with_reducible show BodyQ _ _ _ _ _ _); first | with_reducible (refine Stop.of ?_)) | walk1 | dsimp only)
  all_goals first
    | (exfalso; rename ((oppV _ _ _ _ != _) = true) => a9; rw [hob'] at a9; simp at a9; done)
    | (exfalso; rename ((_ != _) = true) => a9; first | (rw [q5] at a9; cases a9; done) | (rw [q6] at a9; cases a9; done))
    | (exfalso; rename (worth 1 _ - _ ≠ _) => a9; first | exact a9 q1 | exact a9 q2)
    | (exfalso; rename (worth 2 _ ≠ _) => a9; first | exact a9 w20 | exact a9 w21)
    | (exfalso; rename (scaleV _ _ _ _ _ ≠ _) => a9; first | exact a9 q3 | exact a9 q4)
    | skip
  refine Stop.go ?_
  rename Fr _ _ _ _ => F9
  refine BodyQ.nil F9 ?_
  show Value.bool _ = Value.bool true
  rw [strong_eq]



end
-- part E2
example : True := by w_top off; trivial
section
set_option maxHeartbeats 1500000 in
theorem stage_C (w : World) (f r : Nat) (t1 t2 : Tok) (ab : Addr) (bs : List Int) (hb : Bd f r bs) : CutAt w 193 5 fun rest qual scope cdv => ∀ {mean : ExcName → Option Value} {mg mb : PySem.Str → Option Value} {dp' un : Nat} {gd : Option (List Code)} {outer : List Env} {A₀ : Around} {base g h : Heap} {L : Addr} {tk : Nat} {s : Shared} {ap dp ag dg ak as am r0 r1 : Addr} {es eg : List DictEntry} {np ng ck cs nm n0 n1 : Nat} {kv sv v0 v1 : List Value} {KI SI M0 M1 : List Int} {oc : Obj} {au ah : Addr} {nu nh : Nat} {x0 x1 y0 y1 : Int} {tx0 tx1 ty0 ty1 : Tok} {ob : Bool}, Below A₀ base outer g → Fr g L h (fun y => if y = Str.ofString "opposite" then some (Value.bool ob) else if y = Str.ofString "heavy" then some (Value.ref ah) else if y = Str.ofString "sums" then some (Value.ref au) else if y = Str.ofString "men" then some (Value.ref am) else if y = Str.ofString "pos" then some (Value.ref ap) else bindL (envOfC qual scope L 193 cdv).kindOf [(Str.ofString "files", .int (f : Int) t1), (Str.ofString "ranks", .int (r : Int) t2), (Str.ofString "board", .ref ab)] (fun _ => none) y) → (hd.heap_1 w.params).In g →
    (PosRec.mk dp ag dg ak as es eg np ng ck cs kv sv KI SI).Ok f r (KB bs) (SB bs) 0 → oc.data = .cell (some (.ref ab)) →
    News g L h [(ah, listOf #[.int y0 ty0, .int y1 ty1] nh), (au, listOf #[.int x0 tx0, .int x1 tx1] nu), (am, listOf #[.ref r0, .ref r1] nm), (r0, listOf v0.toArray n0), (r1, listOf v1.toArray n1), (ap, instObj 144 dp), (dp, dictOf es np), (ag, instObj 123 dg), (dg, dictOf eg ng), (ak, listOf kv.toArray ck), (as, listOf sv.toArray cs), (L + 1, oc)] → Top topView (looseW topView [PySem.Str.ofString "PIECE_VALUES"]) mean mg mb g → BoardAt g ab bs →
    IntsAre v0 M0 → IntsAre v1 M1 → M0 = menL bs 0 → M1 = menL bs 1 → x0 = (M0.map pv).sum → x1 = (M1.map pv).sum → y0 = (M0.foldl hvG []).sum → y1 = (M1.foldl hvG []).sum → ob = ((decide (colL f bs 0 bs.length = [0]) && decide (colL f bs 1 bs.length = [1])) || (decide (colL f bs 0 bs.length = [1]) && decide (colL f bs 1 bs.length = [0]))) → NeD dp [(ah, listOf #[.int y0 ty0, .int y1 ty1] nh), (au, listOf #[.int x0 tx0, .int x1 tx1] nu), (am, listOf #[.ref r0, .ref r1] nm), (r0, listOf v0.toArray n0), (r1, listOf v1.toArray n1), (ap, instObj 144 dp), (ag, instObj 123 dg), (dg, dictOf eg ng), (ak, listOf kv.toArray ck), (as, listOf sv.toArray cs), (L + 1, oc)] → dp' + 30 < recursionLimit → un + 8 * 30 < cLine →
    wpAny (model PySem.Challenge.rw_nt0419_01.row.prog w) (ktrTop (dp' + 1) (un + 3) gd qual scope L 193 cdv (cellsFrom (L + 1) scope.names []) outer) (execs rest (envOfC qual scope L 193 cdv)) (BodyQ (fun v tl => tl = [] ∧ v = .bool true) g L s) (fun _ _ => False) { s with heap := h, toks := tk } := by
  refine' CutAt.of ?ho ?_
  case ho => k_is
  dsimp only [List.drop]
  intro mean mg mb dp' un gd outer A₀ base g h L tk s ap dp ag dg ak as am r0 r1 es eg np ng ck cs nm n0 n1 kv sv v0 v1 KI SI M0 M1 oc au ah nu nh x0 x1 y0 y1 tx0 tx1 ty0 ty1 ob B F X ok hoc N T hpre i0 i1 hM0 hM1 hx0 hx1 hy0 hy1 hob hne hdd huu
  refine letAE ?_
  intro A9 e9
  have sm9 := stMark s
  obtain ⟨hf1, hf2, hr1, hr2, hlen, hent, _, _⟩ := id hb
  obtain ⟨hc, hn1, hn2, hn3, hn4⟩ := fr_bounds hf1 hf2 hr1 hr2
  have hE0 : ∀ x ∈ M0, 1 ≤ x ∧ x ≤ 6 := by rw [hM0]; exact menL_ent hb 0
  have hE1 : ∀ x ∈ M1, 1 ≤ x ∧ x ≤ 6 := by rw [hM1]; exact menL_ent hb 1
  have hLen : M0.length + M1.length ≤ bs.length := by rw [hM0, hM1]; exact menL_len bs
  repeat' (first | (k_unfold; (try dsimp only)) | ((with_reducible show wpAny _ _ (compareOp PySem.CmpOp.NotEq (Value.ref _) (Value.ref _)) _ _ _); first | with_reducible ((k_here; (with_reducible show wpAny _ _ (compareOp PySem.CmpOp.NotEq (Value.ref _) (Value.ref _)) _ _ _); k_dflt (refine' ne_two ?z_N ?z_ma ?z_m0 ?z_m1 ?z_mb ?z_n0 ?z_n1 ?z_i0 ?z_i1 ?z_j0 ?z_j1 ?z_e0 ?z_e1 ?z_hu ?_; (case z_N => with_reducible assumption); (case z_ma => k_mem); (case z_m0 => k_mem); (case z_m1 => k_mem); (case z_mb => k_mem); (case z_n0 => k_mem); (case z_n1 => k_mem); (case z_i0 => with_reducible assumption); (case z_i1 => with_reducible assumption); (case z_j0 => with_reducible assumption); (case z_j1 => with_reducible assumption); (case z_e0 => exact rowL_men _ 0 (by assumption)); (case z_e1 => exact rowL_men _ 1 (by assumption)); (case z_hu => units_room))))) | ((with_reducible show wpAny _ _ (execs (_ :: _) _) _ _ _); first | with_reducible (((with_reducible show wpAny _ _ (execs (PySem.Stmt.If _ _ _ _ :: PySem.Stmt.For _ _ _ _ _ :: _) _) _ _ _); refine Stop.of ?_)) | with_reducible (first | k_fold | ((with_reducible refine wpAny_execs_cons ?_); try dsimp only))) | ((with_reducible show wpAny _ _ (getMethod (Value.ref _) _ _) _ _ _); first | with_reducible ((k_here; (with_reducible show wpAny _ _ (getMethod (Value.ref _) (PySem.Str.ofString "count") _) _ _ _); k_dflt (refine' listMethod_K ?z_N ?z_m PySem.F.slot_list_count PySem.F.type_list_count ?_; (case z_N => k_asm); (case z_m => k_mem))))) | ((with_reducible show wpAny _ _ (eval (PySem.Expr.ListComp _ _ _ _) _) _ _ _); first | with_reducible ((k_here; (with_reducible show wpAny _ _ (eval (PySem.Expr.ListComp (PySem.Expr.Call _ _ _ _) [⟨PySem.Expr.Name _ _, _, [], 0⟩] _ _) _) _ _ _); k_dflt (refine LCg.ListComp_U (F₀ := by k_asm) (by with_unfolding_all rfl) (by decide) (by rfl) (by decide) (by rfl) ?_))) | with_reducible ((k_here; (with_reducible show wpAny _ _ (eval (PySem.Expr.ListComp (PySem.Expr.BinOp _ _ _ _) [⟨PySem.Expr.Name _ _, _, [], 0⟩] _ _) _) _ _ _); k_dflt (refine ListComp_C (F₀ := by k_asm) (by with_unfolding_all rfl) (by intro _; rfl) (by intro _; rfl) (by rfl) (by decide) (by rfl) ?_)))) | ((with_reducible show wpAny _ _ (call (Value.ref _) _) _ _ _); first | with_reducible ((k_here; (with_reducible show wpAny _ _ (call (Value.ref 43) _) _ _ _); k_dflt (refine' Spec.use (counts_of_spec _ _ _ _ _ _ _) ?z_B ?z_F ?z_X ?z_N ?z_T ?z_hk ?z_hd ?z_hu ?z_hp ?_; (((case z_F => k_asm); (case z_N => k_asm); (case z_B => k_asm); (case z_X => k_asm); (case z_T => k_asm); (case z_hk => rfl); (case z_hd => first | exact roomD (by with_reducible assumption) rfl | omega); (case z_hu => first | exact roomU (by with_reducible assumption) rfl | omega))); ((case z_hp => exact PosAt.of6 (by with_reducible assumption) (by k_asm) (by k_mem) (by k_mem) (by k_mem) (by k_mem) (by k_mem) (by k_mem)))); intro v9z tl9z h9z tk9z F9z N9z D9z o9z; clear D9z; k_dflt (obtain ⟨a8z, r0z, r1z, v0z, v1z, n8z, n0z, n1z, e8z, e9z, i0z, i1z⟩ := o9z); subst e8z; subst e9z; dsimp only [List.cons_append, List.nil_append] at N9z))) | ((with_reducible show wpAny _ _ (eval (PySem.Expr.Call _ _ _ _) _) _ _ _); first | with_reducible ((k_here; (with_reducible show wpAny _ _ (eval (PySem.Expr.Call (PySem.Expr.Name _ _) (PySem.Expr.Name _ _ :: _) [] _) _) _ _ _); k_dflt (rename Fr _ _ _ _ => F8z; refine' callV F8z ?z_X ?z_f ?z_k ?z_a rfl ?_; (case z_X => k_asm); (case z_f => walk_at "mine vv"); (case z_k => k_is); (case z_a => walk_at "mine av")))) | with_reducible (k_fold)) | ((with_reducible show wpAny _ _ (isTrue (PySem.Expr.Compare _ _ _ _) _ _) _ _ _); first | with_reducible (k_fold)) | ((with_reducible show wpAny _ _ (eval (PySem.Expr.BinOp _ _ _ _) _) _ _ _); first | with_reducible (k_fold)) | ((with_reducible show PyProof.Rows.LCg.CompEnd _ _ _ _ _ _ _ _ _ _ _ _ _ _); first | with_reducible ((k_here; k_dflt (refine' compend0 ?z_F ?z_N ?z_off ?z_S ?_; (case z_F => with_reducible assumption); (case z_N => first | (with_reducible assumption) | exact News.tl (by with_reducible assumption)); (case z_off => with_reducible assumption); (case z_S => first | (with_reducible exact trivial) | exact .inl (by with_reducible assumption) | exact .inr ⟨_, by k_mem, rfl, _, rfl⟩))))) | ((with_reducible show PySem.W.KCfEl _ _ _ _); first | with_reducible (refine Stop.of ?_) | with_reducible (refine Stop.of ?_)) | ((with_reducible show CFinE _ _ _ _ _ _ _); first | ((intro D'z h'z tk'z F'z N'z oN'z))) | ((with_reducible show CEnd _ _ _ _ _ _ _ _ _ _ _ _ _ _ _); first | with_reducible (refine Stop.of ?_)) | ((with_reducible show CRest _ _ _ _ _ _ _ _ _ _ _ _ _ _ _ _ _ _ _); first | with_reducible ((k_dflt first | refine crest_zero ?_ | (refine crest_succ (by rfl) ?_; intro I'z oI'z C'z oC'z X'z oX'z D'z h'z tk'z E'z hX'z F'z N'z off'z ne'z)))) | ((with_reducible show CSrc _ _ _ _ _ _ _ _ _ _ _ _ _ _ _); first | with_reducible ((k_here; k_dflt (refine' csrc_intro ?z_hh ?z_F ?z_N ?z_m ?z_l ?_; (case z_hh => rfl); (case z_F => k_asm); (case z_N => k_asm); (case z_m => k_mem); (case z_l => exact Nat.le_of_ble_eq_true rfl)); intro g'z))) | ((with_reducible show ite _ _ _); first | with_reducible (refine ifexp_const ?_)) | walk1 | dsimp only)
  refine Stop.go ?_
  rename IsRange _ _ _ _ _ _ _ _ => R9
  refine' LCg.CompSrc.range (n := 5) rfl (by with_reducible assumption) (by with_reducible assumption) R9 (by decide) (by rfl) (Nat.le_of_ble_eq_true rfl) ?_
  clear R9
  intro g6
  refine' kcf_range (n := 5) (fun k => ((List.count k M0 : Nat) : Int)) ?turn7 ?fin7
  case turn7 =>
    intro k t I oI C oC D m₂ ys h tk E' hk1 hk2 hC hx F' N' off ne mk
    try dsimp only
    repeat' (first | (k_unfold; (try dsimp only)) | ((with_reducible show wpAny _ _ (compareOp PySem.CmpOp.NotEq (Value.ref _) (Value.ref _)) _ _ _); first | with_reducible ((k_here; (with_reducible show wpAny _ _ (compareOp PySem.CmpOp.NotEq (Value.ref _) (Value.ref _)) _ _ _); k_dflt (refine' ne_two ?z_N ?z_ma ?z_m0 ?z_m1 ?z_mb ?z_n0 ?z_n1 ?z_i0 ?z_i1 ?z_j0 ?z_j1 ?z_e0 ?z_e1 ?z_hu ?_; (case z_N => with_reducible assumption); (case z_ma => k_mem); (case z_m0 => k_mem); (case z_m1 => k_mem); (case z_mb => k_mem); (case z_n0 => k_mem); (case z_n1 => k_mem); (case z_i0 => with_reducible assumption); (case z_i1 => with_reducible assumption); (case z_j0 => with_reducible assumption); (case z_j1 => with_reducible assumption); (case z_e0 => exact rowL_men _ 0 (by assumption)); (case z_e1 => exact rowL_men _ 1 (by assumption)); (case z_hu => units_room))))) | ((with_reducible show wpAny _ _ (execs (_ :: _) _) _ _ _); first | with_reducible (((with_reducible show wpAny _ _ (execs (PySem.Stmt.If _ _ _ _ :: PySem.Stmt.For _ _ _ _ _ :: _) _) _ _ _); refine Stop.of ?_)) | with_reducible (first | k_fold | ((with_reducible refine wpAny_execs_cons ?_); try dsimp only))) | ((with_reducible show wpAny _ _ (getMethod (Value.ref _) _ _) _ _ _); first | with_reducible ((k_here; (with_reducible show wpAny _ _ (getMethod (Value.ref _) (PySem.Str.ofString "count") _) _ _ _); k_dflt (refine' listMethod_K ?z_N ?z_m PySem.F.slot_list_count PySem.F.type_list_count ?_; (case z_N => k_asm); (case z_m => k_mem))))) | ((with_reducible show wpAny _ _ (eval (PySem.Expr.ListComp _ _ _ _) _) _ _ _); first | with_reducible ((k_here; (with_reducible show wpAny _ _ (eval (PySem.Expr.ListComp (PySem.Expr.Call _ _ _ _) [⟨PySem.Expr.Name _ _, _, [], 0⟩] _ _) _) _ _ _); k_dflt (refine LCg.ListComp_U (F₀ := by k_asm) (by with_unfolding_all rfl) (by decide) (by rfl) (by decide) (by rfl) ?_))) | with_reducible ((k_here; (with_reducible show wpAny _ _ (eval (PySem.Expr.ListComp (PySem.Expr.BinOp _ _ _ _) [⟨PySem.Expr.Name _ _, _, [], 0⟩] _ _) _) _ _ _); k_dflt (refine ListComp_C (F₀ := by k_asm) (by with_unfolding_all rfl) (by intro _; rfl) (by intro _; rfl) (by rfl) (by decide) (by rfl) ?_)))) | ((with_reducible show wpAny _ _ (call (Value.ref _) _) _ _ _); first | with_reducible ((k_here; (with_reducible show wpAny _ _ (call (Value.ref 43) _) _ _ _); k_dflt (refine' Spec.use (counts_of_spec _ _ _ _ _ _ _) ?z_B ?z_F ?z_X ?z_N ?z_T ?z_hk ?z_hd ?z_hu ?z_hp ?_; (((case z_F => k_asm); (case z_N => k_asm); (case z_B => k_asm); (case z_X => k_asm); (case z_T => k_asm); (case z_hk => rfl); (case z_hd => first | exact roomD (by with_reducible assumption) rfl | omega); (case z_hu => first | exact roomU (by with_reducible assumption) rfl | omega))); ((case z_hp => exact PosAt.of6 (by with_reducible assumption) (by k_asm) (by k_mem) (by k_mem) (by k_mem) (by k_mem) (by k_mem) (by k_mem)))); intro v9z tl9z h9z tk9z F9z N9z D9z o9z; clear D9z; k_dflt (obtain ⟨a8z, r0z, r1z, v0z, v1z, n8z, n0z, n1z, e8z, e9z, i0z, i1z⟩ := o9z); subst e8z; subst e9z; dsimp only [List.cons_append, List.nil_append] at N9z))) | ((with_reducible show wpAny _ _ (eval (PySem.Expr.Call _ _ _ _) _) _ _ _); first | with_reducible ((k_here; (with_reducible show wpAny _ _ (eval (PySem.Expr.Call (PySem.Expr.Name _ _) (PySem.Expr.Name _ _ :: _) [] _) _) _ _ _); k_dflt (rename Fr _ _ _ _ => F8z; refine' callV F8z ?z_X ?z_f ?z_k ?z_a rfl ?_; (case z_X => k_asm); (case z_f => walk_at "mine vv"); (case z_k => k_is); (case z_a => walk_at "mine av")))) | with_reducible (k_fold)) | ((with_reducible show wpAny _ _ (isTrue (PySem.Expr.Compare _ _ _ _) _ _) _ _ _); first | with_reducible (k_fold)) | ((with_reducible show wpAny _ _ (eval (PySem.Expr.BinOp _ _ _ _) _) _ _ _); first | with_reducible (k_fold)) | ((with_reducible show PyProof.Rows.LCg.CompEnd _ _ _ _ _ _ _ _ _ _ _ _ _ _); first | with_reducible ((k_here; k_dflt (refine' compend0 ?z_F ?z_N ?z_off ?z_S ?_; (case z_F => with_reducible assumption); (case z_N => first | (with_reducible assumption) | exact News.tl (by with_reducible assumption)); (case z_off => with_reducible assumption); (case z_S => first | (with_reducible exact trivial) | exact .inl (by with_reducible assumption) | exact .inr ⟨_, by k_mem, rfl, _, rfl⟩))))) | ((with_reducible show PySem.W.KCfEl _ _ _ _); first | with_reducible (refine Stop.of ?_) | with_reducible (refine Stop.of ?_)) | ((with_reducible show CFinE _ _ _ _ _ _ _); first | ((intro D'z h'z tk'z F'z N'z oN'z))) | ((with_reducible show CEnd _ _ _ _ _ _ _ _ _ _ _ _ _ _ _); first | with_reducible (refine Stop.of ?_)) | ((with_reducible show CRest _ _ _ _ _ _ _ _ _ _ _ _ _ _ _ _ _ _ _); first | with_reducible ((k_dflt first | refine crest_zero ?_ | (refine crest_succ (by rfl) ?_; intro I'z oI'z C'z oC'z X'z oX'z D'z h'z tk'z E'z hX'z F'z N'z off'z ne'z)))) | ((with_reducible show CSrc _ _ _ _ _ _ _ _ _ _ _ _ _ _ _); first | with_reducible ((k_here; k_dflt (refine' csrc_intro ?z_hh ?z_F ?z_N ?z_m ?z_l ?_; (case z_hh => rfl); (case z_F => k_asm); (case z_N => k_asm); (case z_m => k_mem); (case z_l => exact Nat.le_of_ble_eq_true rfl)); intro g'z))) | ((with_reducible show ite _ _ _); first | with_reducible (refine ifexp_const ?_)) | walk1 | dsimp only)
    refine Stop.go ?_
    exact kcf_el rfl rfl rfl
  case fin7 =>
    unfold KPfDone
    intro ys4 hi4 D h tk F' N' o1
    try dsimp only
    repeat' (first | (k_unfold; (try dsimp only)) | ((with_reducible show wpAny _ _ (compareOp PySem.CmpOp.NotEq (Value.ref _) (Value.ref _)) _ _ _); first | with_reducible ((k_here; (with_reducible show wpAny _ _ (compareOp PySem.CmpOp.NotEq (Value.ref _) (Value.ref _)) _ _ _); k_dflt (refine' ne_two ?z_N ?z_ma ?z_m0 ?z_m1 ?z_mb ?z_n0 ?z_n1 ?z_i0 ?z_i1 ?z_j0 ?z_j1 ?z_e0 ?z_e1 ?z_hu ?_; (case z_N => with_reducible assumption); (case z_ma => k_mem); (case z_m0 => k_mem); (case z_m1 => k_mem); (case z_mb => k_mem); (case z_n0 => k_mem); (case z_n1 => k_mem); (case z_i0 => with_reducible assumption); (case z_i1 => with_reducible assumption); (case z_j0 => with_reducible assumption); (case z_j1 => with_reducible assumption); (case z_e0 => exact rowL_men _ 0 (by assumption)); (case z_e1 => exact rowL_men _ 1 (by assumption)); (case z_hu => units_room))))) | ((with_reducible show wpAny _ _ (execs (_ :: _) _) _ _ _); first | with_reducible (((with_reducible show wpAny _ _ (execs (PySem.Stmt.If _ _ _ _ :: PySem.Stmt.For _ _ _ _ _ :: _) _) _ _ _); refine Stop.of ?_)) | with_reducible (first | k_fold | ((with_reducible refine wpAny_execs_cons ?_); try dsimp only))) | ((with_reducible show wpAny _ _ (getMethod (Value.ref _) _ _) _ _ _); first | with_reducible ((k_here; (with_reducible show wpAny _ _ (getMethod (Value.ref _) (PySem.Str.ofString "count") _) _ _ _); k_dflt (refine' listMethod_K ?z_N ?z_m PySem.F.slot_list_count PySem.F.type_list_count ?_; (case z_N => k_asm); (case z_m => k_mem))))) | ((with_reducible show wpAny _ _ (eval (PySem.Expr.ListComp _ _ _ _) _) _ _ _); first | with_reducible ((k_here; (with_reducible show wpAny _ _ (eval (PySem.Expr.ListComp (PySem.Expr.Call _ _ _ _) [⟨PySem.Expr.Name _ _, _, [], 0⟩] _ _) _) _ _ _); k_dflt (refine LCg.ListComp_U (F₀ := by k_asm) (by with_unfolding_all rfl) (by decide) (by rfl) (by decide) (by rfl) ?_))) | with_reducible ((k_here; (with_reducible show wpAny _ _ (eval (PySem.Expr.ListComp (PySem.Expr.BinOp _ _ _ _) [⟨PySem.Expr.Name _ _, _, [], 0⟩] _ _) _) _ _ _); k_dflt (refine ListComp_C (F₀ := by k_asm) (by with_unfolding_all rfl) (by intro _; rfl) (by intro _; rfl) (by rfl) (by decide) (by rfl) ?_)))) | ((with_reducible show wpAny _ _ (call (Value.ref _) _) _ _ _); first | with_reducible ((k_here; (with_reducible show wpAny _ _ (call (Value.ref 43) _) _ _ _); k_dflt (refine' Spec.use (counts_of_spec _ _ _ _ _ _ _) ?z_B ?z_F ?z_X ?z_N ?z_T ?z_hk ?z_hd ?z_hu ?z_hp ?_; (((case z_F => k_asm); (case z_N => k_asm); (case z_B => k_asm); (case z_X => k_asm); (case z_T => k_asm); (case z_hk => rfl); (case z_hd => first | exact roomD (by with_reducible assumption) rfl | omega); (case z_hu => first | exact roomU (by with_reducible assumption) rfl | omega))); ((case z_hp => exact PosAt.of6 (by with_reducible assumption) (by k_asm) (by k_mem) (by k_mem) (by k_mem) (by k_mem) (by k_mem) (by k_mem)))); intro v9z tl9z h9z tk9z F9z N9z D9z o9z; clear D9z; k_dflt (obtain ⟨a8z, r0z, r1z, v0z, v1z, n8z, n0z, n1z, e8z, e9z, i0z, i1z⟩ := o9z); subst e8z; subst e9z; dsimp only [List.cons_append, List.nil_append] at N9z))) | ((with_reducible show wpAny _ _ (eval (PySem.Expr.Call _ _ _ _) _) _ _ _); first | with_reducible ((k_here; (with_reducible show wpAny _ _ (eval (PySem.Expr.Call (PySem.Expr.Name _ _) (PySem.Expr.Name _ _ :: _) [] _) _) _ _ _); k_dflt (rename Fr _ _ _ _ => F8z; refine' callV F8z ?z_X ?z_f ?z_k ?z_a rfl ?_; (case z_X => k_asm); (case z_f => walk_at "mine vv"); (case z_k => k_is); (case z_a => walk_at "mine av")))) | with_reducible (k_fold)) | ((with_reducible show wpAny _ _ (isTrue (PySem.Expr.Compare _ _ _ _) _ _) _ _ _); first | with_reducible (k_fold)) | ((with_reducible show wpAny _ _ (eval (PySem.Expr.BinOp _ _ _ _) _) _ _ _); first | with_reducible (k_fold)) | ((with_reducible show PyProof.Rows.LCg.CompEnd _ _ _ _ _ _ _ _ _ _ _ _ _ _); first | with_reducible ((k_here; k_dflt (refine' compend0 ?z_F ?z_N ?z_off ?z_S ?_; (case z_F => with_reducible assumption); (case z_N => first | (with_reducible assumption) | exact News.tl (by with_reducible assumption)); (case z_off => with_reducible assumption); (case z_S => first | (with_reducible exact trivial) | exact .inl (by with_reducible assumption) | exact .inr ⟨_, by k_mem, rfl, _, rfl⟩))))) | ((with_reducible show PySem.W.KCfEl _ _ _ _); first | with_reducible (refine Stop.of ?_) | with_reducible (refine Stop.of ?_)) | ((with_reducible show CFinE _ _ _ _ _ _ _); first | ((intro D'z h'z tk'z F'z N'z oN'z))) | ((with_reducible show CEnd _ _ _ _ _ _ _ _ _ _ _ _ _ _ _); first | with_reducible (refine Stop.of ?_)) | ((with_reducible show CRest _ _ _ _ _ _ _ _ _ _ _ _ _ _ _ _ _ _ _); first | with_reducible ((k_dflt first | refine crest_zero ?_ | (refine crest_succ (by rfl) ?_; intro I'z oI'z C'z oC'z X'z oX'z D'z h'z tk'z E'z hX'z F'z N'z off'z ne'z)))) | ((with_reducible show CSrc _ _ _ _ _ _ _ _ _ _ _ _ _ _ _); first | with_reducible ((k_here; k_dflt (refine' csrc_intro ?z_hh ?z_F ?z_N ?z_m ?z_l ?_; (case z_hh => rfl); (case z_F => k_asm); (case z_N => k_asm); (case z_m => k_mem); (case z_l => exact Nat.le_of_ble_eq_true rfl)); intro g'z))) | ((with_reducible show ite _ _ _); first | with_reducible (refine ifexp_const ?_)) | walk1 | dsimp only)
    refine Stop.go ?_
    rename Fr _ _ _ _ => F8
    rename News _ _ _ _ => N8
    change CEnd _ _ _ _ _ _ _ _ _ _ _ _ _ _ _
    refine' cend_new2 F8 N8 ?off7 ?lt7 ?src7
    case off7 => with_reducible assumption
    case lt7 => (simp only [AllLt, and_true]); with_reducible assumption
    refine ⟨List.Mem.tail _ (by k_mem), ?_⟩
    try clear F8 N8
    try dsimp only
    repeat' (first | (k_unfold; (try dsimp only)) | ((with_reducible show wpAny _ _ (compareOp PySem.CmpOp.NotEq (Value.ref _) (Value.ref _)) _ _ _); first | with_reducible ((k_here; (with_reducible show wpAny _ _ (compareOp PySem.CmpOp.NotEq (Value.ref _) (Value.ref _)) _ _ _); k_dflt (refine' ne_two ?z_N ?z_ma ?z_m0 ?z_m1 ?z_mb ?z_n0 ?z_n1 ?z_i0 ?z_i1 ?z_j0 ?z_j1 ?z_e0 ?z_e1 ?z_hu ?_; (case z_N => with_reducible assumption); (case z_ma => k_mem); (case z_m0 => k_mem); (case z_m1 => k_mem); (case z_mb => k_mem); (case z_n0 => k_mem); (case z_n1 => k_mem); (case z_i0 => with_reducible assumption); (case z_i1 => with_reducible assumption); (case z_j0 => with_reducible assumption); (case z_j1 => with_reducible assumption); (case z_e0 => exact rowL_men _ 0 (by assumption)); (case z_e1 => exact rowL_men _ 1 (by assumption)); (case z_hu => units_room))))) | ((with_reducible show wpAny _ _ (execs (_ :: _) _) _ _ _); first | with_reducible (((with_reducible show wpAny _ _ (execs (PySem.Stmt.If _ _ _ _ :: PySem.Stmt.For _ _ _ _ _ :: _) _) _ _ _); refine Stop.of ?_)) | with_reducible (first | k_fold | ((with_reducible refine wpAny_execs_cons ?_); try dsimp only))) | ((with_reducible show wpAny _ _ (getMethod (Value.ref _) _ _) _ _ _); first | with_reducible ((k_here; (with_reducible show wpAny _ _ (getMethod (Value.ref _) (PySem.Str.ofString "count") _) _ _ _); k_dflt (refine' listMethod_K ?z_N ?z_m PySem.F.slot_list_count PySem.F.type_list_count ?_; (case z_N => k_asm); (case z_m => k_mem))))) | ((with_reducible show wpAny _ _ (eval (PySem.Expr.ListComp _ _ _ _) _) _ _ _); first | with_reducible ((k_here; (with_reducible show wpAny _ _ (eval (PySem.Expr.ListComp (PySem.Expr.Call _ _ _ _) [⟨PySem.Expr.Name _ _, _, [], 0⟩] _ _) _) _ _ _); k_dflt (refine LCg.ListComp_U (F₀ := by k_asm) (by with_unfolding_all rfl) (by decide) (by rfl) (by decide) (by rfl) ?_))) | with_reducible ((k_here; (with_reducible show wpAny _ _ (eval (PySem.Expr.ListComp (PySem.Expr.BinOp _ _ _ _) [⟨PySem.Expr.Name _ _, _, [], 0⟩] _ _) _) _ _ _); k_dflt (refine ListComp_C (F₀ := by k_asm) (by with_unfolding_all rfl) (by intro _; rfl) (by intro _; rfl) (by rfl) (by decide) (by rfl) ?_)))) | ((with_reducible show wpAny _ _ (call (Value.ref _) _) _ _ _); first | with_reducible ((k_here; (with_reducible show wpAny _ _ (call (Value.ref 43) _) _ _ _); k_dflt (refine' Spec.use (counts_of_spec _ _ _ _ _ _ _) ?z_B ?z_F ?z_X ?z_N ?z_T ?z_hk ?z_hd ?z_hu ?z_hp ?_; (((case z_F => k_asm); (case z_N => k_asm); (case z_B => k_asm); (case z_X => k_asm); (case z_T => k_asm); (case z_hk => rfl); (case z_hd => first | exact roomD (by with_reducible assumption) rfl | omega); (case z_hu => first | exact roomU (by with_reducible assumption) rfl | omega))); ((case z_hp => exact PosAt.of6 (by with_reducible assumption) (by k_asm) (by k_mem) (by k_mem) (by k_mem) (by k_mem) (by k_mem) (by k_mem)))); intro v9z tl9z h9z tk9z F9z N9z D9z o9z; clear D9z; k_dflt (obtain ⟨a8z, r0z, r1z, v0z, v1z, n8z, n0z, n1z, e8z, e9z, i0z, i1z⟩ := o9z); subst e8z; subst e9z; dsimp only [List.cons_append, List.nil_append] at N9z))) | ((with_reducible show wpAny _ _ (eval (PySem.Expr.Call _ _ _ _) _) _ _ _); first | with_reducible ((k_here; (with_reducible show wpAny _ _ (eval (PySem.Expr.Call (PySem.Expr.Name _ _) (PySem.Expr.Name _ _ :: _) [] _) _) _ _ _); k_dflt (rename Fr _ _ _ _ => F8z; refine' callV F8z ?z_X ?z_f ?z_k ?z_a rfl ?_; (case z_X => k_asm); (case z_f => walk_at "mine vv"); (case z_k => k_is); (case z_a => walk_at "mine av")))) | with_reducible (k_fold)) | ((with_reducible show wpAny _ _ (isTrue (PySem.Expr.Compare _ _ _ _) _ _) _ _ _); first | with_reducible (k_fold)) | ((with_reducible show wpAny _ _ (eval (PySem.Expr.BinOp _ _ _ _) _) _ _ _); first | with_reducible (k_fold)) | ((with_reducible show PyProof.Rows.LCg.CompEnd _ _ _ _ _ _ _ _ _ _ _ _ _ _); first | with_reducible ((k_here; k_dflt (refine' compend0 ?z_F ?z_N ?z_off ?z_S ?_; (case z_F => with_reducible assumption); (case z_N => first | (with_reducible assumption) | exact News.tl (by with_reducible assumption)); (case z_off => with_reducible assumption); (case z_S => first | (with_reducible exact trivial) | exact .inl (by with_reducible assumption) | exact .inr ⟨_, by k_mem, rfl, _, rfl⟩))))) | ((with_reducible show PySem.W.KCfEl _ _ _ _); first | with_reducible (refine Stop.of ?_) | with_reducible (refine Stop.of ?_)) | ((with_reducible show CFinE _ _ _ _ _ _ _); first | ((intro D'z h'z tk'z F'z N'z oN'z))) | ((with_reducible show CEnd _ _ _ _ _ _ _ _ _ _ _ _ _ _ _); first | with_reducible (refine Stop.of ?_)) | ((with_reducible show CRest _ _ _ _ _ _ _ _ _ _ _ _ _ _ _ _ _ _ _); first | with_reducible ((k_dflt first | refine crest_zero ?_ | (refine crest_succ (by rfl) ?_; intro I'z oI'z C'z oC'z X'z oX'z D'z h'z tk'z E'z hX'z F'z N'z off'z ne'z)))) | ((with_reducible show CSrc _ _ _ _ _ _ _ _ _ _ _ _ _ _ _); first | with_reducible ((k_here; k_dflt (refine' csrc_intro ?z_hh ?z_F ?z_N ?z_m ?z_l ?_; (case z_hh => rfl); (case z_F => k_asm); (case z_N => k_asm); (case z_m => k_mem); (case z_l => exact Nat.le_of_ble_eq_true rfl)); intro g'z))) | ((with_reducible show ite _ _ _); first | with_reducible (refine ifexp_const ?_)) | walk1 | dsimp only)
    refine Stop.go ?_
    rename IsRange _ _ _ _ _ _ _ _ => R9
    refine' LCg.CompSrc.range (n := 5) rfl (by with_reducible assumption) (by with_reducible assumption) R9 (by decide) (by rfl) (Nat.le_of_ble_eq_true rfl) ?_
    clear R9
    intro g6
    refine' kcf_range (n := 5) (fun k => ((List.count k M1 : Nat) : Int)) ?turn8 ?fin8
    case turn8 =>
      intro k t I oI C oC D m₂ ys h tk E' hk1 hk2 hC hx F' N' off ne mk
      try dsimp only
      repeat' (first | (k_unfold; (try dsimp only)) | ((with_reducible show wpAny _ _ (compareOp PySem.CmpOp.NotEq (Value.ref _) (Value.ref _)) _ _ _); first | with_reducible ((k_here; (with_reducible show wpAny _ _ (compareOp PySem.CmpOp.NotEq (Value.ref _) (Value.ref _)) _ _ _); k_dflt (refine' ne_two ?z_N ?z_ma ?z_m0 ?z_m1 ?z_mb ?z_n0 ?z_n1 ?z_i0 ?z_i1 ?z_j0 ?z_j1 ?z_e0 ?z_e1 ?z_hu ?_; (case z_N => with_reducible assumption); (case z_ma => k_mem); (case z_m0 => k_mem); (case z_m1 => k_mem); (case z_mb => k_mem); (case z_n0 => k_mem); (case z_n1 => k_mem); (case z_i0 => with_reducible assumption); (case z_i1 => with_reducible assumption); (case z_j0 => with_reducible assumption); (case z_j1 => with_reducible assumption); (case z_e0 => exact rowL_men _ 0 (by assumption)); (case z_e1 => exact rowL_men _ 1 (by assumption)); (case z_hu => units_room))))) | ((with_reducible show wpAny _ _ (execs (_ :: _) _) _ _ _); first | with_reducible (((with_reducible show wpAny _ _ (execs (PySem.Stmt.If _ _ _ _ :: PySem.Stmt.For _ _ _ _ _ :: _) _) _ _ _); refine Stop.of ?_)) | with_reducible (first | k_fold | ((with_reducible refine wpAny_execs_cons ?_); try dsimp only))) | ((with_reducible show wpAny _ _ (getMethod (Value.ref _) _ _) _ _ _); first | with_reducible ((k_here; (with_reducible show wpAny _ _ (getMethod (Value.ref _) (PySem.Str.ofString "count") _) _ _ _); k_dflt (refine' listMethod_K ?z_N ?z_m PySem.F.slot_list_count PySem.F.type_list_count ?_; (case z_N => k_asm); (case z_m => k_mem))))) | ((with_reducible show wpAny _ _ (eval (PySem.Expr.ListComp _ _ _ _) _) _ _ _); first | with_reducible ((k_here; (with_reducible show wpAny _ _ (eval (PySem.Expr.ListComp (PySem.Expr.Call _ _ _ _) [⟨PySem.Expr.Name _ _, _, [], 0⟩] _ _) _) _ _ _); k_dflt (refine LCg.ListComp_U (F₀ := by k_asm) (by with_unfolding_all rfl) (by decide) (by rfl) (by decide) (by rfl) ?_))) | with_reducible ((k_here; (with_reducible show wpAny _ _ (eval (PySem.Expr.ListComp (PySem.Expr.BinOp _ _ _ _) [⟨PySem.Expr.Name _ _, _, [], 0⟩] _ _) _) _ _ _); k_dflt (refine ListComp_C (F₀ := by k_asm) (by with_unfolding_all rfl) (by intro _; rfl) (by intro _; rfl) (by rfl) (by decide) (by rfl) ?_)))) | ((with_reducible show wpAny _ _ (call (Value.ref _) _) _ _ _); first | with_reducible ((k_here; (with_reducible show wpAny _ _ (call (Value.ref 43) _) _ _ _); k_dflt (refine' Spec.use (counts_of_spec _ _ _ _ _ _ _) ?z_B ?z_F ?z_X ?z_N ?z_T ?z_hk ?z_hd ?z_hu ?z_hp ?_; (((case z_F => k_asm); (case z_N => k_asm); (case z_B => k_asm); (case z_X => k_asm); (case z_T => k_asm); (case z_hk => rfl); (case z_hd => first | exact roomD (by with_reducible assumption) rfl | omega); (case z_hu => first | exact roomU (by with_reducible assumption) rfl | omega))); ((case z_hp => exact PosAt.of6 (by with_reducible assumption) (by k_asm) (by k_mem) (by k_mem) (by k_mem) (by k_mem) (by k_mem) (by k_mem)))); intro v9z tl9z h9z tk9z F9z N9z D9z o9z; clear D9z; k_dflt (obtain ⟨a8z, r0z, r1z, v0z, v1z, n8z, n0z, n1z, e8z, e9z, i0z, i1z⟩ := o9z); subst e8z; subst e9z; dsimp only [List.cons_append, List.nil_append] at N9z))) | ((with_reducible show wpAny _ _ (eval (PySem.Expr.Call _ _ _ _) _) _ _ _); first | with_reducible ((k_here; (with_reducible show wpAny _ _ (eval (PySem.Expr.Call (PySem.Expr.Name _ _) (PySem.Expr.Name _ _ :: _) [] _) _) _ _ _); k_dflt (rename Fr _ _ _ _ => F8z; refine' callV F8z ?z_X ?z_f ?z_k ?z_a rfl ?_; (case z_X => k_asm); (case z_f => walk_at "mine vv"); (case z_k => k_is); (case z_a => walk_at "mine av")))) | with_reducible (k_fold)) | ((with_reducible show wpAny _ _ (isTrue (PySem.Expr.Compare _ _ _ _) _ _) _ _ _); first | with_reducible (k_fold)) | ((with_reducible show wpAny _ _ (eval (PySem.Expr.BinOp _ _ _ _) _) _ _ _); first | with_reducible (k_fold)) | ((with_reducible show PyProof.Rows.LCg.CompEnd _ _ _ _ _ _ _ _ _ _ _ _ _ _); first | with_reducible ((k_here; k_dflt (refine' compend0 ?z_F ?z_N ?z_off ?z_S ?_; (case z_F => with_reducible assumption); (case z_N => first | (with_reducible assumption) | exact News.tl (by with_reducible assumption)); (case z_off => with_reducible assumption); (case z_S => first | (with_reducible exact trivial) | exact .inl (by with_reducible assumption) | exact .inr ⟨_, by k_mem, rfl, _, rfl⟩))))) | ((with_reducible show PySem.W.KCfEl _ _ _ _); first | with_reducible (refine Stop.of ?_) | with_reducible (refine Stop.of ?_)) | ((with_reducible show CFinE _ _ _ _ _ _ _); first | ((intro D'z h'z tk'z F'z N'z oN'z))) | ((with_reducible show CEnd _ _ _ _ _ _ _ _ _ _ _ _ _ _ _); first | with_reducible (refine Stop.of ?_)) | ((with_reducible show CRest _ _ _ _ _ _ _ _ _ _ _ _ _ _ _ _ _ _ _); first | with_reducible ((k_dflt first | refine crest_zero ?_ | (refine crest_succ (by rfl) ?_; intro I'z oI'z C'z oC'z X'z oX'z D'z h'z tk'z E'z hX'z F'z N'z off'z ne'z)))) | ((with_reducible show CSrc _ _ _ _ _ _ _ _ _ _ _ _ _ _ _); first | with_reducible ((k_here; k_dflt (refine' csrc_intro ?z_hh ?z_F ?z_N ?z_m ?z_l ?_; (case z_hh => rfl); (case z_F => k_asm); (case z_N => k_asm); (case z_m => k_mem); (case z_l => exact Nat.le_of_ble_eq_true rfl)); intro g'z))) | ((with_reducible show ite _ _ _); first | with_reducible (refine ifexp_const ?_)) | walk1 | dsimp only)
      refine Stop.go ?_
      exact kcf_el rfl rfl rfl
    case fin8 =>
      unfold KPfDone
      intro ys4 hi4 D h tk F' N' o1
      try dsimp only
      repeat' (first | (k_unfold; (try dsimp only)) | ((with_reducible show wpAny _ _ (compareOp PySem.CmpOp.NotEq (Value.ref _) (Value.ref _)) _ _ _); first | with_reducible ((k_here; (with_reducible show wpAny _ _ (compareOp PySem.CmpOp.NotEq (Value.ref _) (Value.ref _)) _ _ _); k_dflt (refine' ne_two ?z_N ?z_ma ?z_m0 ?z_m1 ?z_mb ?z_n0 ?z_n1 ?z_i0 ?z_i1 ?z_j0 ?z_j1 ?z_e0 ?z_e1 ?z_hu ?_; (case z_N => with_reducible assumption); (case z_ma => k_mem); (case z_m0 => k_mem); (case z_m1 => k_mem); (case z_mb => k_mem); (case z_n0 => k_mem); (case z_n1 => k_mem); (case z_i0 => with_reducible assumption); (case z_i1 => with_reducible assumption); (case z_j0 => with_reducible assumption); (case z_j1 => with_reducible assumption); (case z_e0 => exact rowL_men _ 0 (by assumption)); (case z_e1 => exact rowL_men _ 1 (by assumption)); (case z_hu => units_room))))) | ((with_reducible show wpAny _ _ (execs (_ :: _) _) _ _ _); first | with_reducible (((with_reducible show wpAny _ _ (execs (PySem.Stmt.If _ _ _ _ :: PySem.Stmt.For _ _ _ _ _ :: _) _) _ _ _); refine Stop.of ?_)) | with_reducible (first | k_fold | ((with_reducible refine wpAny_execs_cons ?_); try dsimp only))) | ((with_reducible show wpAny _ _ (getMethod (Value.ref _) _ _) _ _ _); first | with_reducible ((k_here; (with_reducible show wpAny _ _ (getMethod (Value.ref _) (PySem.Str.ofString "count") _) _ _ _); k_dflt (refine' listMethod_K ?z_N ?z_m PySem.F.slot_list_count PySem.F.type_list_count ?_; (case z_N => k_asm); (case z_m => k_mem))))) | ((with_reducible show wpAny _ _ (eval (PySem.Expr.ListComp _ _ _ _) _) _ _ _); first | with_reducible ((k_here; (with_reducible show wpAny _ _ (eval (PySem.Expr.ListComp (PySem.Expr.Call _ _ _ _) [⟨PySem.Expr.Name _ _, _, [], 0⟩] _ _) _) _ _ _); k_dflt (refine LCg.ListComp_U (F₀ := by k_asm) (by with_unfolding_all rfl) (by decide) (by rfl) (by decide) (by rfl) ?_))) | with_reducible ((k_here; (with_reducible show wpAny _ _ (eval (PySem.Expr.ListComp (PySem.Expr.BinOp _ _ _ _) [⟨PySem.Expr.Name _ _, _, [], 0⟩] _ _) _) _ _ _); k_dflt (refine ListComp_C (F₀ := by k_asm) (by with_unfolding_all rfl) (by intro _; rfl) (by intro _; rfl) (by rfl) (by decide) (by rfl) ?_)))) | ((with_reducible show wpAny _ _ (call (Value.ref _) _) _ _ _); first | with_reducible ((k_here; (with_reducible show wpAny _ _ (call (Value.ref 43) _) _ _ _); k_dflt (refine' Spec.use (counts_of_spec _ _ _ _ _ _ _) ?z_B ?z_F ?z_X ?z_N ?z_T ?z_hk ?z_hd ?z_hu ?z_hp ?_; (((case z_F => k_asm); (case z_N => k_asm); (case z_B => k_asm); (case z_X => k_asm); (case z_T => k_asm); (case z_hk => rfl); (case z_hd => first | exact roomD (by with_reducible assumption) rfl | omega); (case z_hu => first | exact roomU (by with_reducible assumption) rfl | omega))); ((case z_hp => exact PosAt.of6 (by with_reducible assumption) (by k_asm) (by k_mem) (by k_mem) (by k_mem) (by k_mem) (by k_mem) (by k_mem)))); intro v9z tl9z h9z tk9z F9z N9z D9z o9z; clear D9z; k_dflt (obtain ⟨a8z, r0z, r1z, v0z, v1z, n8z, n0z, n1z, e8z, e9z, i0z, i1z⟩ := o9z); subst e8z; subst e9z; dsimp only [List.cons_append, List.nil_append] at N9z))) | ((with_reducible show wpAny _ _ (eval (PySem.Expr.Call _ _ _ _) _) _ _ _); first | with_reducible ((k_here; (with_reducible show wpAny _ _ (eval (PySem.Expr.Call (PySem.Expr.Name _ _) (PySem.Expr.Name _ _ :: _) [] _) _) _ _ _); k_dflt (rename Fr _ _ _ _ => F8z; refine' callV F8z ?z_X ?z_f ?z_k ?z_a rfl ?_; (case z_X => k_asm); (case z_f => walk_at "mine vv"); (case z_k => k_is); (case z_a => walk_at "mine av")))) | with_reducible (k_fold)) | ((with_reducible show wpAny _ _ (isTrue (PySem.Expr.Compare _ _ _ _) _ _) _ _ _); first | with_reducible (k_fold)) | ((with_reducible show wpAny _ _ (eval (PySem.Expr.BinOp _ _ _ _) _) _ _ _); first | with_reducible (k_fold)) | ((with_reducible show PyProof.Rows.LCg.CompEnd _ _ _ _ _ _ _ _ _ _ _ _ _ _); first | with_reducible ((k_here; k_dflt (refine' compend0 ?z_F ?z_N ?z_off ?z_S ?_; (case z_F => with_reducible assumption); (case z_N => first | (with_reducible assumption) | exact News.tl (by with_reducible assumption)); (case z_off => with_reducible assumption); (case z_S => first | (with_reducible exact trivial) | exact .inl (by with_reducible assumption) | exact .inr ⟨_, by k_mem, rfl, _, rfl⟩))))) | ((with_reducible show PySem.W.KCfEl _ _ _ _); first | with_reducible (refine Stop.of ?_) | with_reducible (refine Stop.of ?_)) | ((with_reducible show CFinE _ _ _ _ _ _ _); first | ((intro D'z h'z tk'z F'z N'z oN'z))) | ((with_reducible show CEnd _ _ _ _ _ _ _ _ _ _ _ _ _ _ _); first | with_reducible (refine Stop.of ?_)) | ((with_reducible show CRest _ _ _ _ _ _ _ _ _ _ _ _ _ _ _ _ _ _ _); first | with_reducible ((k_dflt first | refine crest_zero ?_ | (refine crest_succ (by rfl) ?_; intro I'z oI'z C'z oC'z X'z oX'z D'z h'z tk'z E'z hX'z F'z N'z off'z ne'z)))) | ((with_reducible show CSrc _ _ _ _ _ _ _ _ _ _ _ _ _ _ _); first | with_reducible ((k_here; k_dflt (refine' csrc_intro ?z_hh ?z_F ?z_N ?z_m ?z_l ?_; (case z_hh => rfl); (case z_F => k_asm); (case z_N => k_asm); (case z_m => k_mem); (case z_l => exact Nat.le_of_ble_eq_true rfl)); intro g'z))) | ((with_reducible show ite _ _ _); first | with_reducible (refine ifexp_const ?_)) | walk1 | dsimp only)
      refine Stop.go ?_
      rename Fr _ _ _ _ => F8
      rename News _ _ _ _ => N8
      change CEnd _ _ _ _ _ _ _ _ _ _ _ _ _ _ _
      refine' cend_new2 F8 N8 ?off8 ?lt8 ?src8
      case off8 => with_reducible assumption
      case lt8 => (simp only [AllLt, and_true]); with_reducible assumption
      refine ⟨List.Mem.tail _ (by k_mem), ?_⟩
      try clear F8 N8
      try dsimp only
      repeat' (first | (k_unfold; (try dsimp only)) | ((with_reducible show wpAny _ _ (compareOp PySem.CmpOp.NotEq (Value.ref _) (Value.ref _)) _ _ _); first | with_reducible ((k_here; (with_reducible show wpAny _ _ (compareOp PySem.CmpOp.NotEq (Value.ref _) (Value.ref _)) _ _ _); k_dflt (refine' ne_two ?z_N ?z_ma ?z_m0 ?z_m1 ?z_mb ?z_n0 ?z_n1 ?z_i0 ?z_i1 ?z_j0 ?z_j1 ?z_e0 ?z_e1 ?z_hu ?_; (case z_N => with_reducible assumption); (case z_ma => k_mem); (case z_m0 => k_mem); (case z_m1 => k_mem); (case z_mb => k_mem); (case z_n0 => k_mem); (case z_n1 => k_mem); (case z_i0 => with_reducible assumption); (case z_i1 => with_reducible assumption); (case z_j0 => with_reducible assumption); (case z_j1 => with_reducible assumption); (case z_e0 => exact rowL_men _ 0 (by assumption)); (case z_e1 => exact rowL_men _ 1 (by assumption)); (case z_hu => units_room))))) | ((with_reducible show wpAny _ _ (execs (_ :: _) _) _ _ _); first | with_reducible (((with_reducible show wpAny _ _ (execs (PySem.Stmt.If _ _ _ _ :: PySem.Stmt.For _ _ _ _ _ :: _) _) _ _ _); refine Stop.of ?_)) | with_reducible (first | k_fold | ((with_reducible refine wpAny_execs_cons ?_); try dsimp only))) | ((with_reducible show wpAny _ _ (getMethod (Value.ref _) _ _) _ _ _); first | with_reducible ((k_here; (with_reducible show wpAny _ _ (getMethod (Value.ref _) (PySem.Str.ofString "count") _) _ _ _); k_dflt (refine' listMethod_K ?z_N ?z_m PySem.F.slot_list_count PySem.F.type_list_count ?_; (case z_N => k_asm); (case z_m => k_mem))))) | ((with_reducible show wpAny _ _ (eval (PySem.Expr.ListComp _ _ _ _) _) _ _ _); first | with_reducible ((k_here; (with_reducible show wpAny _ _ (eval (PySem.Expr.ListComp (PySem.Expr.Call _ _ _ _) [⟨PySem.Expr.Name _ _, _, [], 0⟩] _ _) _) _ _ _); k_dflt (refine LCg.ListComp_U (F₀ := by k_asm) (by with_unfolding_all rfl) (by decide) (by rfl) (by decide) (by rfl) ?_))) | with_reducible ((k_here; (with_reducible show wpAny _ _ (eval (PySem.Expr.ListComp (PySem.Expr.BinOp _ _ _ _) [⟨PySem.Expr.Name _ _, _, [], 0⟩] _ _) _) _ _ _); k_dflt (refine ListComp_C (F₀ := by k_asm) (by with_unfolding_all rfl) (by intro _; rfl) (by intro _; rfl) (by rfl) (by decide) (by rfl) ?_)))) | ((with_reducible show wpAny _ _ (call (Value.ref _) _) _ _ _); first | with_reducible ((k_here; (with_reducible show wpAny _ _ (call (Value.ref 43) _) _ _ _); k_dflt (refine' Spec.use (counts_of_spec _ _ _ _ _ _ _) ?z_B ?z_F ?z_X ?z_N ?z_T ?z_hk ?z_hd ?z_hu ?z_hp ?_; (((case z_F => k_asm); (case z_N => k_asm); (case z_B => k_asm); (case z_X => k_asm); (case z_T => k_asm); (case z_hk => rfl); (case z_hd => first | exact roomD (by with_reducible assumption) rfl | omega); (case z_hu => first | exact roomU (by with_reducible assumption) rfl | omega))); ((case z_hp => exact PosAt.of6 (by with_reducible assumption) (by k_asm) (by k_mem) (by k_mem) (by k_mem) (by k_mem) (by k_mem) (by k_mem)))); intro v9z tl9z h9z tk9z F9z N9z D9z o9z; clear D9z; k_dflt (obtain ⟨a8z, r0z, r1z, v0z, v1z, n8z, n0z, n1z, e8z, e9z, i0z, i1z⟩ := o9z); subst e8z; subst e9z; dsimp only [List.cons_append, List.nil_append] at N9z))) | ((with_reducible show wpAny _ _ (eval (PySem.Expr.Call _ _ _ _) _) _ _ _); first | with_reducible ((k_here; (with_reducible show wpAny _ _ (eval (PySem.Expr.Call (PySem.Expr.Name _ _) (PySem.Expr.Name _ _ :: _) [] _) _) _ _ _); k_dflt (rename Fr _ _ _ _ => F8z; refine' callV F8z ?z_X ?z_f ?z_k ?z_a rfl ?_; (case z_X => k_asm); (case z_f => walk_at "mine vv"); (case z_k => k_is); (case z_a => walk_at "mine av")))) | with_reducible (k_fold)) | ((with_reducible show wpAny _ _ (isTrue (PySem.Expr.Compare _ _ _ _) _ _) _ _ _); first | with_reducible (k_fold)) | ((with_reducible show wpAny _ _ (eval (PySem.Expr.BinOp _ _ _ _) _) _ _ _); first | with_reducible (k_fold)) | ((with_reducible show PyProof.Rows.LCg.CompEnd _ _ _ _ _ _ _ _ _ _ _ _ _ _); first | with_reducible ((k_here; k_dflt (refine' compend0 ?z_F ?z_N ?z_off ?z_S ?_; (case z_F => with_reducible assumption); (case z_N => first | (with_reducible assumption) | exact News.tl (by with_reducible assumption)); (case z_off => with_reducible assumption); (case z_S => first | (with_reducible exact trivial) | exact .inl (by with_reducible assumption) | exact .inr ⟨_, by k_mem, rfl, _, rfl⟩))))) | ((with_reducible show PySem.W.KCfEl _ _ _ _); first | with_reducible (refine Stop.of ?_) | with_reducible (refine Stop.of ?_)) | ((with_reducible show CFinE _ _ _ _ _ _ _); first | ((intro D'z h'z tk'z F'z N'z oN'z))) | ((with_reducible show CEnd _ _ _ _ _ _ _ _ _ _ _ _ _ _ _); first | with_reducible (refine Stop.of ?_)) | ((with_reducible show CRest _ _ _ _ _ _ _ _ _ _ _ _ _ _ _ _ _ _ _); first | with_reducible ((k_dflt first | refine crest_zero ?_ | (refine crest_succ (by rfl) ?_; intro I'z oI'z C'z oC'z X'z oX'z D'z h'z tk'z E'z hX'z F'z N'z off'z ne'z)))) | ((with_reducible show CSrc _ _ _ _ _ _ _ _ _ _ _ _ _ _ _); first | with_reducible ((k_here; k_dflt (refine' csrc_intro ?z_hh ?z_F ?z_N ?z_m ?z_l ?_; (case z_hh => rfl); (case z_F => k_asm); (case z_N => k_asm); (case z_m => k_mem); (case z_l => exact Nat.le_of_ble_eq_true rfl)); intro g'z))) | ((with_reducible show ite _ _ _); first | with_reducible (refine ifexp_const ?_)) | walk1 | dsimp only)
      rename News _ _ _ _ => N9
      refine Stop.go ?_
      refine' CutAt.elim (stage_D w f r t1 t2 ab bs hb) ?ho ?_
      case ho => k_is
      intro c9
      refine' c9 ?B ?F ?X ?ok ?oc ?N ?T ?bd ?i0 ?i1 ?m0 ?m1 ?x0 ?x1 ?y0 ?y1 ?ob ?ne ?dd ?uu
      case B => with_reducible assumption
      case F => with_reducible assumption
      case X => with_reducible assumption
      case ok => with_reducible assumption
      case oc => with_reducible assumption
      case N => exact News.tl (News.tl (News.tl (News.tl (News.tl (News.tl N9)))))
      case T => with_reducible assumption
      case bd => with_reducible assumption
      case i0 => with_reducible assumption
      case i1 => with_reducible assumption
      case m0 => with_reducible assumption
      case m1 => with_reducible assumption
      case x0 => with_reducible assumption
      case x1 => with_reducible assumption
      case y0 => with_reducible assumption
      case y1 => with_reducible assumption
      case ob => with_reducible assumption
      case ne => with_reducible assumption
      case dd => with_reducible assumption
      case uu => with_reducible assumption



end
-- part E3
example : True := by w_top off; trivial
section
set_option maxHeartbeats 3000000 in
theorem stage_B (w : World) (f r : Nat) (t1 t2 : Tok) (ab : Addr) (bs : List Int) (hb : Bd f r bs) : CutAt w 193 2 fun rest qual scope cdv => ∀ {mean : ExcName → Option Value} {mg mb : PySem.Str → Option Value} {dp' un : Nat} {gd : Option (List Code)} {outer : List Env} {A₀ : Around} {base g h : Heap} {L : Addr} {tk : Nat} {s : Shared} {ap dp ag dg ak as am r0 r1 : Addr} {es eg : List DictEntry} {np ng ck cs nm n0 n1 : Nat} {kv sv v0 v1 : List Value} {KI SI M0 M1 : List Int} {oc : Obj}, Below A₀ base outer g → Fr g L h (fun y => if y = Str.ofString "men" then some (Value.ref am) else if y = Str.ofString "pos" then some (Value.ref ap) else bindL (envOfC qual scope L 193 cdv).kindOf [(Str.ofString "files", .int (f : Int) t1), (Str.ofString "ranks", .int (r : Int) t2), (Str.ofString "board", .ref ab)] (fun _ => none) y) → (hd.heap_1 w.params).In g →
    (PosRec.mk dp ag dg ak as es eg np ng ck cs kv sv KI SI).Ok f r (KB bs) (SB bs) 0 → oc.data = .cell (some (.ref ab)) →
    News g L h [(am, listOf #[.ref r0, .ref r1] nm), (r0, listOf v0.toArray n0), (r1, listOf v1.toArray n1), (ap, instObj 144 dp), (dp, dictOf es np), (ag, instObj 123 dg), (dg, dictOf eg ng), (ak, listOf kv.toArray ck), (as, listOf sv.toArray cs), (L + 1, oc)] → Top topView (looseW topView [PySem.Str.ofString "PIECE_VALUES"]) mean mg mb g → BoardAt g ab bs →
    IntsAre v0 M0 → IntsAre v1 M1 → M0 = menL bs 0 → M1 = menL bs 1 → NeD dp [(am, listOf #[.ref r0, .ref r1] nm), (r0, listOf v0.toArray n0), (r1, listOf v1.toArray n1), (ap, instObj 144 dp), (ag, instObj 123 dg), (dg, dictOf eg ng), (ak, listOf kv.toArray ck), (as, listOf sv.toArray cs), (L + 1, oc)] → dp' + 30 < recursionLimit → un + 8 * 30 < cLine →
    wpAny (model PySem.Challenge.rw_nt0419_01.row.prog w) (ktrTop (dp' + 1) (un + 3) gd qual scope L 193 cdv (cellsFrom (L + 1) scope.names []) outer) (execs rest (envOfC qual scope L 193 cdv)) (BodyQ (fun v tl => tl = [] ∧ v = .bool true) g L s) (fun _ _ => False) { s with heap := h, toks := tk } := by
  refine' CutAt.of ?ho ?_
  case ho => k_is
  dsimp only [List.drop]
  intro mean mg mb dp' un gd outer A₀ base g h L tk s ap dp ag dg ak as am r0 r1 es eg np ng ck cs nm n0 n1 kv sv v0 v1 KI SI M0 M1 oc B F X ok hoc N T hpre i0 i1 hM0 hM1 hne hdd huu
  refine letAE ?_
  intro A9 e9
  have sm9 := stMark s
  obtain ⟨hf1, hf2, hr1, hr2, hlen, hent, _, _⟩ := id hb
  obtain ⟨hc, hn1, hn2, hn3, hn4⟩ := fr_bounds hf1 hf2 hr1 hr2
  have hE0 : ∀ x ∈ M0, 1 ≤ x ∧ x ≤ 6 := by rw [hM0]; exact menL_ent hb 0
  have hE1 : ∀ x ∈ M1, 1 ≤ x ∧ x ≤ 6 := by rw [hM1]; exact menL_ent hb 1
  have hLen : M0.length + M1.length ≤ bs.length := by rw [hM0, hM1]; exact menL_len bs
  repeat' (first | (k_unfold; (try dsimp only)) | ((with_reducible show wpAny _ _ (subscriptTail (PySem.Expr.Subscript (PySem.Expr.Name _ _) (PySem.Expr.Name _ _) _) (PySem.Expr.Constant _ _ _) (Value.ref _) (Value.int _ _)) _ _ _); first | with_reducible ((((with_reducible show wpAny _ _ (subscriptTail _ _ (Value.ref _) (Value.int 0 _)) _ _ _); k_dflt (refine' pv_item ?z_F ?z_X ?z_hp ?_; (case z_hp => with_reducible assumption); (case z_F => k_asm); (case z_X => k_asm)); intro t9z)))) | ((with_reducible show wpAny _ _ (subscriptTail (PySem.Expr.Name _ _) (PySem.Expr.Name _ _) (Value.ref _) (Value.int _ _)) _ _ _); first | with_reducible ((((with_reducible show wpAny _ _ (subscriptTail _ _ (Value.ref 29) (Value.int _ _)) _ _ _); k_dflt (refine' pv_top ?z_F ?z_X ?z_hk ?_; (case z_F => k_asm); (case z_X => k_asm); (case z_hk => with_reducible assumption)); intro a9z hP9z)))) | ((with_reducible show wpAny _ _ (execs (_ :: _) _) _ _ _); first | with_reducible (((with_reducible show wpAny _ _ (execs (PySem.Stmt.If _ _ _ _ :: _) _) _ _ _); refine Stop.of ?_)) | with_reducible (first | k_fold | ((with_reducible refine wpAny_execs_cons ?_); try dsimp only))) | ((with_reducible show wpAny _ _ (call (Value.builtin "sum") _) _ _ _); first | with_reducible (((with_reducible show wpAny _ _ (call (Value.builtin _) [Value.ref _]) _ _ _); k_dflt (refine' sumN ?z_k0 ?z_k1 ?z_k2 ?z_k3 ?z_k4 ?_; (case z_k0 => rfl); (case z_k1 => k_asm); (case z_k2 => k_asm); (case z_k3 => k_mem); (case z_k4 => with_reducible assumption)); intro h'z tk'z t'z F'z N'z; (try dsimp only)))) | ((with_reducible show wpAny _ _ (call (Value.ref _) _) _ _ _); first | with_reducible ((k_here; (with_reducible show wpAny _ _ (call (Value.ref 174) _) _ _ _); k_dflt (refine' Spec.useE (law_opposite_spec _ _ _ _ _ _ ?z_hb) ?z_B ?z_F ?z_X ?z_N ?z_T ?z_hk ?z_hd ?z_hu ?z_hp ?_; (case z_hb => with_reducible assumption); (((case z_F => k_asm); (case z_N => k_asm); (case z_B => k_asm); (case z_X => k_asm); (case z_T => k_asm); (case z_hk => rfl); (case z_hd => first | exact roomD (by with_reducible assumption) rfl | omega); (case z_hu => first | exact roomU (by with_reducible assumption) rfl | omega))); (case z_hp => exact BoardAt.base (by with_reducible assumption) (by with_reducible assumption))); (intro h9z tk9z F9z N9z)))) | ((with_reducible show wpAny _ _ (eval (PySem.Expr.ListComp _ _ _ _) _) _ _ _); first | with_reducible ((k_here; (with_reducible show wpAny _ _ (eval (PySem.Expr.ListComp _ [⟨PySem.Expr.Name _ _, _, [_], 0⟩] _ _) _) _ _ _); k_dflt (refine LCt.ListComp_T (F₀ := by k_asm) (by with_unfolding_all rfl) (by decide) (by rfl) (by decide) (by rfl) ?_)))) | ((with_reducible show wpAny _ _ (eval (PySem.Expr.Call _ _ _ _) _) _ _ _); first | with_reducible ((k_here; (with_reducible show wpAny _ _ (eval (PySem.Expr.Call (PySem.Expr.Name _ _) (PySem.Expr.Name _ _ :: _) [] _) _) _ _ _); k_dflt (rename Fr _ _ _ _ => F8z; refine' callV F8z ?z_X ?z_f ?z_k ?z_a rfl ?_; (case z_X => k_asm); (case z_f => walk_at "mine vv"); (case z_k => k_is); (case z_a => walk_at "mine av")))) | with_reducible (k_fold)) | ((with_reducible show wpAny _ _ (eval (PySem.Expr.Subscript _ _ _) _) _ _ _); first | with_reducible (k_fold)) | ((with_reducible show PyProof.Rows.LCg.CompRest _ _ _ _ _ _ _ _ _ _ _ _ _ _ _ _ _ _ _); first | with_reducible ((k_dflt (refine LCg.CompRest.succ ?_); (intro vz Iz oIz Cz oCz D3z m₂z hz tkz E'z hvz hCz hxz F'z N'z offz nez); (k_dflt (cases hvz)); (try dsimp only)))) | ((with_reducible show PyProof.Rows.LCg.CompEnd _ _ _ _ _ _ _ _ _ _ _ _ _ _); first | with_reducible ((k_here; k_dflt (refine' compend0 ?z_F ?z_N ?z_off ?z_S ?_; (case z_F => with_reducible assumption); (case z_N => first | (with_reducible assumption) | exact News.tl (by with_reducible assumption)); (case z_off => with_reducible assumption); (case z_S => first | (with_reducible exact trivial) | exact .inl (by with_reducible assumption) | exact .inr ⟨_, by k_mem, rfl, _, rfl⟩))))) | ((with_reducible show PySem.W.KCfEl _ _ _ _); first | with_reducible (refine Stop.of ?_) | with_reducible (refine Stop.of ?_)) | ((with_reducible show PySem.W.KCiNo _ _ _ _); first | with_reducible (refine Stop.of ?_)) | ((with_reducible show PySem.W.KCiEl _ _ _ _ _); first | with_reducible (refine Stop.of ?_)) | walk1 | dsimp only)
  refine Stop.go ?_
  refine' LCg.CompSrc.ledger rfl (by with_reducible assumption) (by with_reducible assumption) ?mS3 ?zS3 ?_
  case mS3 => k_mem
  case zS3 => exact Nat.le_of_ble_eq_true rfl
  intro g4
  try dsimp only
  repeat' (first | (k_unfold; (try dsimp only)) | ((with_reducible show wpAny _ _ (subscriptTail (PySem.Expr.Subscript (PySem.Expr.Name _ _) (PySem.Expr.Name _ _) _) (PySem.Expr.Constant _ _ _) (Value.ref _) (Value.int _ _)) _ _ _); first | with_reducible ((((with_reducible show wpAny _ _ (subscriptTail _ _ (Value.ref _) (Value.int 0 _)) _ _ _); k_dflt (refine' pv_item ?z_F ?z_X ?z_hp ?_; (case z_hp => with_reducible assumption); (case z_F => k_asm); (case z_X => k_asm)); intro t9z)))) | ((with_reducible show wpAny _ _ (subscriptTail (PySem.Expr.Name _ _) (PySem.Expr.Name _ _) (Value.ref _) (Value.int _ _)) _ _ _); first | with_reducible ((((with_reducible show wpAny _ _ (subscriptTail _ _ (Value.ref 29) (Value.int _ _)) _ _ _); k_dflt (refine' pv_top ?z_F ?z_X ?z_hk ?_; (case z_F => k_asm); (case z_X => k_asm); (case z_hk => with_reducible assumption)); intro a9z hP9z)))) | ((with_reducible show wpAny _ _ (execs (_ :: _) _) _ _ _); first | with_reducible (((with_reducible show wpAny _ _ (execs (PySem.Stmt.If _ _ _ _ :: _) _) _ _ _); refine Stop.of ?_)) | with_reducible (first | k_fold | ((with_reducible refine wpAny_execs_cons ?_); try dsimp only))) | ((with_reducible show wpAny _ _ (call (Value.builtin "sum") _) _ _ _); first | with_reducible (((with_reducible show wpAny _ _ (call (Value.builtin _) [Value.ref _]) _ _ _); k_dflt (refine' sumN ?z_k0 ?z_k1 ?z_k2 ?z_k3 ?z_k4 ?_; (case z_k0 => rfl); (case z_k1 => k_asm); (case z_k2 => k_asm); (case z_k3 => k_mem); (case z_k4 => with_reducible assumption)); intro h'z tk'z t'z F'z N'z; (try dsimp only)))) | ((with_reducible show wpAny _ _ (call (Value.ref _) _) _ _ _); first | with_reducible ((k_here; (with_reducible show wpAny _ _ (call (Value.ref 174) _) _ _ _); k_dflt (refine' Spec.useE (law_opposite_spec _ _ _ _ _ _ ?z_hb) ?z_B ?z_F ?z_X ?z_N ?z_T ?z_hk ?z_hd ?z_hu ?z_hp ?_; (case z_hb => with_reducible assumption); (((case z_F => k_asm); (case z_N => k_asm); (case z_B => k_asm); (case z_X => k_asm); (case z_T => k_asm); (case z_hk => rfl); (case z_hd => first | exact roomD (by with_reducible assumption) rfl | omega); (case z_hu => first | exact roomU (by with_reducible assumption) rfl | omega))); (case z_hp => exact BoardAt.base (by with_reducible assumption) (by with_reducible assumption))); (intro h9z tk9z F9z N9z)))) | ((with_reducible show wpAny _ _ (eval (PySem.Expr.ListComp _ _ _ _) _) _ _ _); first | with_reducible ((k_here; (with_reducible show wpAny _ _ (eval (PySem.Expr.ListComp _ [⟨PySem.Expr.Name _ _, _, [_], 0⟩] _ _) _) _ _ _); k_dflt (refine LCt.ListComp_T (F₀ := by k_asm) (by with_unfolding_all rfl) (by decide) (by rfl) (by decide) (by rfl) ?_)))) | ((with_reducible show wpAny _ _ (eval (PySem.Expr.Call _ _ _ _) _) _ _ _); first | with_reducible ((k_here; (with_reducible show wpAny _ _ (eval (PySem.Expr.Call (PySem.Expr.Name _ _) (PySem.Expr.Name _ _ :: _) [] _) _) _ _ _); k_dflt (rename Fr _ _ _ _ => F8z; refine' callV F8z ?z_X ?z_f ?z_k ?z_a rfl ?_; (case z_X => k_asm); (case z_f => walk_at "mine vv"); (case z_k => k_is); (case z_a => walk_at "mine av")))) | with_reducible (k_fold)) | ((with_reducible show wpAny _ _ (eval (PySem.Expr.Subscript _ _ _) _) _ _ _); first | with_reducible (k_fold)) | ((with_reducible show PyProof.Rows.LCg.CompRest _ _ _ _ _ _ _ _ _ _ _ _ _ _ _ _ _ _ _); first | with_reducible ((k_dflt (refine LCg.CompRest.succ ?_); (intro vz Iz oIz Cz oCz D3z m₂z hz tkz E'z hvz hCz hxz F'z N'z offz nez); (k_dflt (cases hvz)); (try dsimp only)))) | ((with_reducible show PyProof.Rows.LCg.CompEnd _ _ _ _ _ _ _ _ _ _ _ _ _ _); first | with_reducible ((k_here; k_dflt (refine' compend0 ?z_F ?z_N ?z_off ?z_S ?_; (case z_F => with_reducible assumption); (case z_N => first | (with_reducible assumption) | exact News.tl (by with_reducible assumption)); (case z_off => with_reducible assumption); (case z_S => first | (with_reducible exact trivial) | exact .inl (by with_reducible assumption) | exact .inr ⟨_, by k_mem, rfl, _, rfl⟩))))) | ((with_reducible show PySem.W.KCfEl _ _ _ _); first | with_reducible (refine Stop.of ?_) | with_reducible (refine Stop.of ?_)) | ((with_reducible show PySem.W.KCiNo _ _ _ _); first | with_reducible (refine Stop.of ?_)) | ((with_reducible show PySem.W.KCiEl _ _ _ _ _); first | with_reducible (refine Stop.of ?_)) | walk1 | dsimp only)
  refine Stop.go ?_
  refine' LCg.CompSrc.ledger rfl (by with_reducible assumption) (by with_reducible assumption) ?mT3 ?zT3 ?_
  case mT3 => k_mem
  case zT3 => rw [List.size_toArray, i0.length, PySem.sizeLine_eq]; omega
  intro g5
  refine' kcf_list pv i0 ?turn3 ?fin3
  case turn3 =>
    intro k t I oI C oC D m₂ ys h tk E' hk hC hx F' N' off ne mk
    have hk6 := hE0 k hk
    try dsimp only
    repeat' (first | (k_unfold; (try dsimp only)) | ((with_reducible show wpAny _ _ (subscriptTail (PySem.Expr.Subscript (PySem.Expr.Name _ _) (PySem.Expr.Name _ _) _) (PySem.Expr.Constant _ _ _) (Value.ref _) (Value.int _ _)) _ _ _); first | with_reducible ((((with_reducible show wpAny _ _ (subscriptTail _ _ (Value.ref _) (Value.int 0 _)) _ _ _); k_dflt (refine' pv_item ?z_F ?z_X ?z_hp ?_; (case z_hp => with_reducible assumption); (case z_F => k_asm); (case z_X => k_asm)); intro t9z)))) | ((with_reducible show wpAny _ _ (subscriptTail (PySem.Expr.Name _ _) (PySem.Expr.Name _ _) (Value.ref _) (Value.int _ _)) _ _ _); first | with_reducible ((((with_reducible show wpAny _ _ (subscriptTail _ _ (Value.ref 29) (Value.int _ _)) _ _ _); k_dflt (refine' pv_top ?z_F ?z_X ?z_hk ?_; (case z_F => k_asm); (case z_X => k_asm); (case z_hk => with_reducible assumption)); intro a9z hP9z)))) | ((with_reducible show wpAny _ _ (execs (_ :: _) _) _ _ _); first | with_reducible (((with_reducible show wpAny _ _ (execs (PySem.Stmt.If _ _ _ _ :: _) _) _ _ _); refine Stop.of ?_)) | with_reducible (first | k_fold | ((with_reducible refine wpAny_execs_cons ?_); try dsimp only))) | ((with_reducible show wpAny _ _ (call (Value.builtin "sum") _) _ _ _); first | with_reducible (((with_reducible show wpAny _ _ (call (Value.builtin _) [Value.ref _]) _ _ _); k_dflt (refine' sumN ?z_k0 ?z_k1 ?z_k2 ?z_k3 ?z_k4 ?_; (case z_k0 => rfl); (case z_k1 => k_asm); (case z_k2 => k_asm); (case z_k3 => k_mem); (case z_k4 => with_reducible assumption)); intro h'z tk'z t'z F'z N'z; (try dsimp only)))) | ((with_reducible show wpAny _ _ (call (Value.ref _) _) _ _ _); first | with_reducible ((k_here; (with_reducible show wpAny _ _ (call (Value.ref 174) _) _ _ _); k_dflt (refine' Spec.useE (law_opposite_spec _ _ _ _ _ _ ?z_hb) ?z_B ?z_F ?z_X ?z_N ?z_T ?z_hk ?z_hd ?z_hu ?z_hp ?_; (case z_hb => with_reducible assumption); (((case z_F => k_asm); (case z_N => k_asm); (case z_B => k_asm); (case z_X => k_asm); (case z_T => k_asm); (case z_hk => rfl); (case z_hd => first | exact roomD (by with_reducible assumption) rfl | omega); (case z_hu => first | exact roomU (by with_reducible assumption) rfl | omega))); (case z_hp => exact BoardAt.base (by with_reducible assumption) (by with_reducible assumption))); (intro h9z tk9z F9z N9z)))) | ((with_reducible show wpAny _ _ (eval (PySem.Expr.ListComp _ _ _ _) _) _ _ _); first | with_reducible ((k_here; (with_reducible show wpAny _ _ (eval (PySem.Expr.ListComp _ [⟨PySem.Expr.Name _ _, _, [_], 0⟩] _ _) _) _ _ _); k_dflt (refine LCt.ListComp_T (F₀ := by k_asm) (by with_unfolding_all rfl) (by decide) (by rfl) (by decide) (by rfl) ?_)))) | ((with_reducible show wpAny _ _ (eval (PySem.Expr.Call _ _ _ _) _) _ _ _); first | with_reducible ((k_here; (with_reducible show wpAny _ _ (eval (PySem.Expr.Call (PySem.Expr.Name _ _) (PySem.Expr.Name _ _ :: _) [] _) _) _ _ _); k_dflt (rename Fr _ _ _ _ => F8z; refine' callV F8z ?z_X ?z_f ?z_k ?z_a rfl ?_; (case z_X => k_asm); (case z_f => walk_at "mine vv"); (case z_k => k_is); (case z_a => walk_at "mine av")))) | with_reducible (k_fold)) | ((with_reducible show wpAny _ _ (eval (PySem.Expr.Subscript _ _ _) _) _ _ _); first | with_reducible (k_fold)) | ((with_reducible show PyProof.Rows.LCg.CompRest _ _ _ _ _ _ _ _ _ _ _ _ _ _ _ _ _ _ _); first | with_reducible ((k_dflt (refine LCg.CompRest.succ ?_); (intro vz Iz oIz Cz oCz D3z m₂z hz tkz E'z hvz hCz hxz F'z N'z offz nez); (k_dflt (cases hvz)); (try dsimp only)))) | ((with_reducible show PyProof.Rows.LCg.CompEnd _ _ _ _ _ _ _ _ _ _ _ _ _ _); first | with_reducible ((k_here; k_dflt (refine' compend0 ?z_F ?z_N ?z_off ?z_S ?_; (case z_F => with_reducible assumption); (case z_N => first | (with_reducible assumption) | exact News.tl (by with_reducible assumption)); (case z_off => with_reducible assumption); (case z_S => first | (with_reducible exact trivial) | exact .inl (by with_reducible assumption) | exact .inr ⟨_, by k_mem, rfl, _, rfl⟩))))) | ((with_reducible show PySem.W.KCfEl _ _ _ _); first | with_reducible (refine Stop.of ?_) | with_reducible (refine Stop.of ?_)) | ((with_reducible show PySem.W.KCiNo _ _ _ _); first | with_reducible (refine Stop.of ?_)) | ((with_reducible show PySem.W.KCiEl _ _ _ _ _); first | with_reducible (refine Stop.of ?_)) | walk1 | dsimp only)
    refine Stop.go ?_
    exact kcf_el rfl rfl rfl
  case fin3 =>
    unfold KPfDone
    intro ys3 hi3 D h tk F' N' o1
    try dsimp only
    repeat' (first | (k_unfold; (try dsimp only)) | ((with_reducible show wpAny _ _ (subscriptTail (PySem.Expr.Subscript (PySem.Expr.Name _ _) (PySem.Expr.Name _ _) _) (PySem.Expr.Constant _ _ _) (Value.ref _) (Value.int _ _)) _ _ _); first | with_reducible ((((with_reducible show wpAny _ _ (subscriptTail _ _ (Value.ref _) (Value.int 0 _)) _ _ _); k_dflt (refine' pv_item ?z_F ?z_X ?z_hp ?_; (case z_hp => with_reducible assumption); (case z_F => k_asm); (case z_X => k_asm)); intro t9z)))) | ((with_reducible show wpAny _ _ (subscriptTail (PySem.Expr.Name _ _) (PySem.Expr.Name _ _) (Value.ref _) (Value.int _ _)) _ _ _); first | with_reducible ((((with_reducible show wpAny _ _ (subscriptTail _ _ (Value.ref 29) (Value.int _ _)) _ _ _); k_dflt (refine' pv_top ?z_F ?z_X ?z_hk ?_; (case z_F => k_asm); (case z_X => k_asm); (case z_hk => with_reducible assumption)); intro a9z hP9z)))) | ((with_reducible show wpAny _ _ (execs (_ :: _) _) _ _ _); first | with_reducible (((with_reducible show wpAny _ _ (execs (PySem.Stmt.If _ _ _ _ :: _) _) _ _ _); refine Stop.of ?_)) | with_reducible (first | k_fold | ((with_reducible refine wpAny_execs_cons ?_); try dsimp only))) | ((with_reducible show wpAny _ _ (call (Value.builtin "sum") _) _ _ _); first | with_reducible (((with_reducible show wpAny _ _ (call (Value.builtin _) [Value.ref _]) _ _ _); k_dflt (refine' sumN ?z_k0 ?z_k1 ?z_k2 ?z_k3 ?z_k4 ?_; (case z_k0 => rfl); (case z_k1 => k_asm); (case z_k2 => k_asm); (case z_k3 => k_mem); (case z_k4 => with_reducible assumption)); intro h'z tk'z t'z F'z N'z; (try dsimp only)))) | ((with_reducible show wpAny _ _ (call (Value.ref _) _) _ _ _); first | with_reducible ((k_here; (with_reducible show wpAny _ _ (call (Value.ref 174) _) _ _ _); k_dflt (refine' Spec.useE (law_opposite_spec _ _ _ _ _ _ ?z_hb) ?z_B ?z_F ?z_X ?z_N ?z_T ?z_hk ?z_hd ?z_hu ?z_hp ?_; (case z_hb => with_reducible assumption); (((case z_F => k_asm); (case z_N => k_asm); (case z_B => k_asm); (case z_X => k_asm); (case z_T => k_asm); (case z_hk => rfl); (case z_hd => first | exact roomD (by with_reducible assumption) rfl | omega); (case z_hu => first | exact roomU (by with_reducible assumption) rfl | omega))); (case z_hp => exact BoardAt.base (by with_reducible assumption) (by with_reducible assumption))); (intro h9z tk9z F9z N9z)))) | ((with_reducible show wpAny _ _ (eval (PySem.Expr.ListComp _ _ _ _) _) _ _ _); first | with_reducible ((k_here; (with_reducible show wpAny _ _ (eval (PySem.Expr.ListComp _ [⟨PySem.Expr.Name _ _, _, [_], 0⟩] _ _) _) _ _ _); k_dflt (refine LCt.ListComp_T (F₀ := by k_asm) (by with_unfolding_all rfl) (by decide) (by rfl) (by decide) (by rfl) ?_)))) | ((with_reducible show wpAny _ _ (eval (PySem.Expr.Call _ _ _ _) _) _ _ _); first | with_reducible ((k_here; (with_reducible show wpAny _ _ (eval (PySem.Expr.Call (PySem.Expr.Name _ _) (PySem.Expr.Name _ _ :: _) [] _) _) _ _ _); k_dflt (rename Fr _ _ _ _ => F8z; refine' callV F8z ?z_X ?z_f ?z_k ?z_a rfl ?_; (case z_X => k_asm); (case z_f => walk_at "mine vv"); (case z_k => k_is); (case z_a => walk_at "mine av")))) | with_reducible (k_fold)) | ((with_reducible show wpAny _ _ (eval (PySem.Expr.Subscript _ _ _) _) _ _ _); first | with_reducible (k_fold)) | ((with_reducible show PyProof.Rows.LCg.CompRest _ _ _ _ _ _ _ _ _ _ _ _ _ _ _ _ _ _ _); first | with_reducible ((k_dflt (refine LCg.CompRest.succ ?_); (intro vz Iz oIz Cz oCz D3z m₂z hz tkz E'z hvz hCz hxz F'z N'z offz nez); (k_dflt (cases hvz)); (try dsimp only)))) | ((with_reducible show PyProof.Rows.LCg.CompEnd _ _ _ _ _ _ _ _ _ _ _ _ _ _); first | with_reducible ((k_here; k_dflt (refine' compend0 ?z_F ?z_N ?z_off ?z_S ?_; (case z_F => with_reducible assumption); (case z_N => first | (with_reducible assumption) | exact News.tl (by with_reducible assumption)); (case z_off => with_reducible assumption); (case z_S => first | (with_reducible exact trivial) | exact .inl (by with_reducible assumption) | exact .inr ⟨_, by k_mem, rfl, _, rfl⟩))))) | ((with_reducible show PySem.W.KCfEl _ _ _ _); first | with_reducible (refine Stop.of ?_) | with_reducible (refine Stop.of ?_)) | ((with_reducible show PySem.W.KCiNo _ _ _ _); first | with_reducible (refine Stop.of ?_)) | ((with_reducible show PySem.W.KCiEl _ _ _ _ _); first | with_reducible (refine Stop.of ?_)) | walk1 | dsimp only)
    try dsimp only
    repeat' (first | (k_unfold; (try dsimp only)) | ((with_reducible show wpAny _ _ (subscriptTail (PySem.Expr.Subscript (PySem.Expr.Name _ _) (PySem.Expr.Name _ _) _) (PySem.Expr.Constant _ _ _) (Value.ref _) (Value.int _ _)) _ _ _); first | with_reducible ((((with_reducible show wpAny _ _ (subscriptTail _ _ (Value.ref _) (Value.int 0 _)) _ _ _); k_dflt (refine' pv_item ?z_F ?z_X ?z_hp ?_; (case z_hp => with_reducible assumption); (case z_F => k_asm); (case z_X => k_asm)); intro t9z)))) | ((with_reducible show wpAny _ _ (subscriptTail (PySem.Expr.Name _ _) (PySem.Expr.Name _ _) (Value.ref _) (Value.int _ _)) _ _ _); first | with_reducible ((((with_reducible show wpAny _ _ (subscriptTail _ _ (Value.ref 29) (Value.int _ _)) _ _ _); k_dflt (refine' pv_top ?z_F ?z_X ?z_hk ?_; (case z_F => k_asm); (case z_X => k_asm); (case z_hk => with_reducible assumption)); intro a9z hP9z)))) | ((with_reducible show wpAny _ _ (execs (_ :: _) _) _ _ _); first | with_reducible (((with_reducible show wpAny _ _ (execs (PySem.Stmt.If _ _ _ _ :: _) _) _ _ _); refine Stop.of ?_)) | with_reducible (first | k_fold | ((with_reducible refine wpAny_execs_cons ?_); try dsimp only))) | ((with_reducible show wpAny _ _ (call (Value.builtin "sum") _) _ _ _); first | with_reducible (((with_reducible show wpAny _ _ (call (Value.builtin _) [Value.ref _]) _ _ _); k_dflt (refine' sumN ?z_k0 ?z_k1 ?z_k2 ?z_k3 ?z_k4 ?_; (case z_k0 => rfl); (case z_k1 => k_asm); (case z_k2 => k_asm); (case z_k3 => k_mem); (case z_k4 => with_reducible assumption)); intro h'z tk'z t'z F'z N'z; (try dsimp only)))) | ((with_reducible show wpAny _ _ (call (Value.ref _) _) _ _ _); first | with_reducible ((k_here; (with_reducible show wpAny _ _ (call (Value.ref 174) _) _ _ _); k_dflt (refine' Spec.useE (law_opposite_spec _ _ _ _ _ _ ?z_hb) ?z_B ?z_F ?z_X ?z_N ?z_T ?z_hk ?z_hd ?z_hu ?z_hp ?_; (case z_hb => with_reducible assumption); (((case z_F => k_asm); (case z_N => k_asm); (case z_B => k_asm); (case z_X => k_asm); (case z_T => k_asm); (case z_hk => rfl); (case z_hd => first | exact roomD (by with_reducible assumption) rfl | omega); (case z_hu => first | exact roomU (by with_reducible assumption) rfl | omega))); (case z_hp => exact BoardAt.base (by with_reducible assumption) (by with_reducible assumption))); (intro h9z tk9z F9z N9z)))) | ((with_reducible show wpAny _ _ (eval (PySem.Expr.ListComp _ _ _ _) _) _ _ _); first | with_reducible ((k_here; (with_reducible show wpAny _ _ (eval (PySem.Expr.ListComp _ [⟨PySem.Expr.Name _ _, _, [_], 0⟩] _ _) _) _ _ _); k_dflt (refine LCt.ListComp_T (F₀ := by k_asm) (by with_unfolding_all rfl) (by decide) (by rfl) (by decide) (by rfl) ?_)))) | ((with_reducible show wpAny _ _ (eval (PySem.Expr.Call _ _ _ _) _) _ _ _); first | with_reducible ((k_here; (with_reducible show wpAny _ _ (eval (PySem.Expr.Call (PySem.Expr.Name _ _) (PySem.Expr.Name _ _ :: _) [] _) _) _ _ _); k_dflt (rename Fr _ _ _ _ => F8z; refine' callV F8z ?z_X ?z_f ?z_k ?z_a rfl ?_; (case z_X => k_asm); (case z_f => walk_at "mine vv"); (case z_k => k_is); (case z_a => walk_at "mine av")))) | with_reducible (k_fold)) | ((with_reducible show wpAny _ _ (eval (PySem.Expr.Subscript _ _ _) _) _ _ _); first | with_reducible (k_fold)) | ((with_reducible show PyProof.Rows.LCg.CompRest _ _ _ _ _ _ _ _ _ _ _ _ _ _ _ _ _ _ _); first | with_reducible ((k_dflt (refine LCg.CompRest.succ ?_); (intro vz Iz oIz Cz oCz D3z m₂z hz tkz E'z hvz hCz hxz F'z N'z offz nez); (k_dflt (cases hvz)); (try dsimp only)))) | ((with_reducible show PyProof.Rows.LCg.CompEnd _ _ _ _ _ _ _ _ _ _ _ _ _ _); first | with_reducible ((k_here; k_dflt (refine' compend0 ?z_F ?z_N ?z_off ?z_S ?_; (case z_F => with_reducible assumption); (case z_N => first | (with_reducible assumption) | exact News.tl (by with_reducible assumption)); (case z_off => with_reducible assumption); (case z_S => first | (with_reducible exact trivial) | exact .inl (by with_reducible assumption) | exact .inr ⟨_, by k_mem, rfl, _, rfl⟩))))) | ((with_reducible show PySem.W.KCfEl _ _ _ _); first | with_reducible (refine Stop.of ?_) | with_reducible (refine Stop.of ?_)) | ((with_reducible show PySem.W.KCiNo _ _ _ _); first | with_reducible (refine Stop.of ?_)) | ((with_reducible show PySem.W.KCiEl _ _ _ _ _); first | with_reducible (refine Stop.of ?_)) | walk1 | dsimp only)
    refine Stop.go ?_
    refine' LCg.CompSrc.ledger rfl (by with_reducible assumption) (by with_reducible assumption) ?mT4 ?zT4 ?_
    case mT4 => k_mem
    case zT4 => rw [List.size_toArray, i1.length, PySem.sizeLine_eq]; omega
    intro g5
    refine' kcf_list pv i1 ?turn4 ?fin4
    case turn4 =>
      intro k t I oI C oC D m₂ ys h tk E' hk hC hx F' N' off ne mk
      have hk6 := hE1 k hk
      try dsimp only
      repeat' (first | (k_unfold; (try dsimp only)) | ((with_reducible show wpAny _ _ (subscriptTail (PySem.Expr.Subscript (PySem.Expr.Name _ _) (PySem.Expr.Name _ _) _) (PySem.Expr.Constant _ _ _) (Value.ref _) (Value.int _ _)) _ _ _); first | with_reducible ((((with_reducible show wpAny _ _ (subscriptTail _ _ (Value.ref _) (Value.int 0 _)) _ _ _); k_dflt (refine' pv_item ?z_F ?z_X ?z_hp ?_; (case z_hp => with_reducible assumption); (case z_F => k_asm); (case z_X => k_asm)); intro t9z)))) | ((with_reducible show wpAny _ _ (subscriptTail (PySem.Expr.Name _ _) (PySem.Expr.Name _ _) (Value.ref _) (Value.int _ _)) _ _ _); first | with_reducible ((((with_reducible show wpAny _ _ (subscriptTail _ _ (Value.ref 29) (Value.int _ _)) _ _ _); k_dflt (refine' pv_top ?z_F ?z_X ?z_hk ?_; (case z_F => k_asm); (case z_X => k_asm); (case z_hk => with_reducible assumption)); intro a9z hP9z)))) | ((with_reducible show wpAny _ _ (execs (_ :: _) _) _ _ _); first | with_reducible (((with_reducible show wpAny _ _ (execs (PySem.Stmt.If _ _ _ _ :: _) _) _ _ _); refine Stop.of ?_)) | with_reducible (first | k_fold | ((with_reducible refine wpAny_execs_cons ?_); try dsimp only))) | ((with_reducible show wpAny _ _ (call (Value.builtin "sum") _) _ _ _); first | with_reducible (((with_reducible show wpAny _ _ (call (Value.builtin _) [Value.ref _]) _ _ _); k_dflt (refine' sumN ?z_k0 ?z_k1 ?z_k2 ?z_k3 ?z_k4 ?_; (case z_k0 => rfl); (case z_k1 => k_asm); (case z_k2 => k_asm); (case z_k3 => k_mem); (case z_k4 => with_reducible assumption)); intro h'z tk'z t'z F'z N'z; (try dsimp only)))) | ((with_reducible show wpAny _ _ (call (Value.ref _) _) _ _ _); first | with_reducible ((k_here; (with_reducible show wpAny _ _ (call (Value.ref 174) _) _ _ _); k_dflt (refine' Spec.useE (law_opposite_spec _ _ _ _ _ _ ?z_hb) ?z_B ?z_F ?z_X ?z_N ?z_T ?z_hk ?z_hd ?z_hu ?z_hp ?_; (case z_hb => with_reducible assumption); (((case z_F => k_asm); (case z_N => k_asm); (case z_B => k_asm); (case z_X => k_asm); (case z_T => k_asm); (case z_hk => rfl); (case z_hd => first | exact roomD (by with_reducible assumption) rfl | omega); (case z_hu => first | exact roomU (by with_reducible assumption) rfl | omega))); (case z_hp => exact BoardAt.base (by with_reducible assumption) (by with_reducible assumption))); (intro h9z tk9z F9z N9z)))) | ((with_reducible show wpAny _ _ (eval (PySem.Expr.ListComp _ _ _ _) _) _ _ _); first | with_reducible ((k_here; (with_reducible show wpAny _ _ (eval (PySem.Expr.ListComp _ [⟨PySem.Expr.Name _ _, _, [_], 0⟩] _ _) _) _ _ _); k_dflt (refine LCt.ListComp_T (F₀ := by k_asm) (by with_unfolding_all rfl) (by decide) (by rfl) (by decide) (by rfl) ?_)))) | ((with_reducible show wpAny _ _ (eval (PySem.Expr.Call _ _ _ _) _) _ _ _); first | with_reducible ((k_here; (with_reducible show wpAny _ _ (eval (PySem.Expr.Call (PySem.Expr.Name _ _) (PySem.Expr.Name _ _ :: _) [] _) _) _ _ _); k_dflt (rename Fr _ _ _ _ => F8z; refine' callV F8z ?z_X ?z_f ?z_k ?z_a rfl ?_; (case z_X => k_asm); (case z_f => walk_at "mine vv"); (case z_k => k_is); (case z_a => walk_at "mine av")))) | with_reducible (k_fold)) | ((with_reducible show wpAny _ _ (eval (PySem.Expr.Subscript _ _ _) _) _ _ _); first | with_reducible (k_fold)) | ((with_reducible show PyProof.Rows.LCg.CompRest _ _ _ _ _ _ _ _ _ _ _ _ _ _ _ _ _ _ _); first | with_reducible ((k_dflt (refine LCg.CompRest.succ ?_); (intro vz Iz oIz Cz oCz D3z m₂z hz tkz E'z hvz hCz hxz F'z N'z offz nez); (k_dflt (cases hvz)); (try dsimp only)))) | ((with_reducible show PyProof.Rows.LCg.CompEnd _ _ _ _ _ _ _ _ _ _ _ _ _ _); first | with_reducible ((k_here; k_dflt (refine' compend0 ?z_F ?z_N ?z_off ?z_S ?_; (case z_F => with_reducible assumption); (case z_N => first | (with_reducible assumption) | exact News.tl (by with_reducible assumption)); (case z_off => with_reducible assumption); (case z_S => first | (with_reducible exact trivial) | exact .inl (by with_reducible assumption) | exact .inr ⟨_, by k_mem, rfl, _, rfl⟩))))) | ((with_reducible show PySem.W.KCfEl _ _ _ _); first | with_reducible (refine Stop.of ?_) | with_reducible (refine Stop.of ?_)) | ((with_reducible show PySem.W.KCiNo _ _ _ _); first | with_reducible (refine Stop.of ?_)) | ((with_reducible show PySem.W.KCiEl _ _ _ _ _); first | with_reducible (refine Stop.of ?_)) | walk1 | dsimp only)
      refine Stop.go ?_
      exact kcf_el rfl rfl rfl
    case fin4 =>
      unfold KPfDone
      intro ys3 hi3 D h tk F' N' o1
      try dsimp only
      repeat' (first | (k_unfold; (try dsimp only)) | ((with_reducible show wpAny _ _ (subscriptTail (PySem.Expr.Subscript (PySem.Expr.Name _ _) (PySem.Expr.Name _ _) _) (PySem.Expr.Constant _ _ _) (Value.ref _) (Value.int _ _)) _ _ _); first | with_reducible ((((with_reducible show wpAny _ _ (subscriptTail _ _ (Value.ref _) (Value.int 0 _)) _ _ _); k_dflt (refine' pv_item ?z_F ?z_X ?z_hp ?_; (case z_hp => with_reducible assumption); (case z_F => k_asm); (case z_X => k_asm)); intro t9z)))) | ((with_reducible show wpAny _ _ (subscriptTail (PySem.Expr.Name _ _) (PySem.Expr.Name _ _) (Value.ref _) (Value.int _ _)) _ _ _); first | with_reducible ((((with_reducible show wpAny _ _ (subscriptTail _ _ (Value.ref 29) (Value.int _ _)) _ _ _); k_dflt (refine' pv_top ?z_F ?z_X ?z_hk ?_; (case z_F => k_asm); (case z_X => k_asm); (case z_hk => with_reducible assumption)); intro a9z hP9z)))) | ((with_reducible show wpAny _ _ (execs (_ :: _) _) _ _ _); first | with_reducible (((with_reducible show wpAny _ _ (execs (PySem.Stmt.If _ _ _ _ :: _) _) _ _ _); refine Stop.of ?_)) | with_reducible (first | k_fold | ((with_reducible refine wpAny_execs_cons ?_); try dsimp only))) | ((with_reducible show wpAny _ _ (call (Value.builtin "sum") _) _ _ _); first | with_reducible (((with_reducible show wpAny _ _ (call (Value.builtin _) [Value.ref _]) _ _ _); k_dflt (refine' sumN ?z_k0 ?z_k1 ?z_k2 ?z_k3 ?z_k4 ?_; (case z_k0 => rfl); (case z_k1 => k_asm); (case z_k2 => k_asm); (case z_k3 => k_mem); (case z_k4 => with_reducible assumption)); intro h'z tk'z t'z F'z N'z; (try dsimp only)))) | ((with_reducible show wpAny _ _ (call (Value.ref _) _) _ _ _); first | with_reducible ((k_here; (with_reducible show wpAny _ _ (call (Value.ref 174) _) _ _ _); k_dflt (refine' Spec.useE (law_opposite_spec _ _ _ _ _ _ ?z_hb) ?z_B ?z_F ?z_X ?z_N ?z_T ?z_hk ?z_hd ?z_hu ?z_hp ?_; (case z_hb => with_reducible assumption); (((case z_F => k_asm); (case z_N => k_asm); (case z_B => k_asm); (case z_X => k_asm); (case z_T => k_asm); (case z_hk => rfl); (case z_hd => first | exact roomD (by with_reducible assumption) rfl | omega); (case z_hu => first | exact roomU (by with_reducible assumption) rfl | omega))); (case z_hp => exact BoardAt.base (by with_reducible assumption) (by with_reducible assumption))); (intro h9z tk9z F9z N9z)))) | ((with_reducible show wpAny _ _ (eval (PySem.Expr.ListComp _ _ _ _) _) _ _ _); first | with_reducible ((k_here; (with_reducible show wpAny _ _ (eval (PySem.Expr.ListComp _ [⟨PySem.Expr.Name _ _, _, [_], 0⟩] _ _) _) _ _ _); k_dflt (refine LCt.ListComp_T (F₀ := by k_asm) (by with_unfolding_all rfl) (by decide) (by rfl) (by decide) (by rfl) ?_)))) | ((with_reducible show wpAny _ _ (eval (PySem.Expr.Call _ _ _ _) _) _ _ _); first | with_reducible ((k_here; (with_reducible show wpAny _ _ (eval (PySem.Expr.Call (PySem.Expr.Name _ _) (PySem.Expr.Name _ _ :: _) [] _) _) _ _ _); k_dflt (rename Fr _ _ _ _ => F8z; refine' callV F8z ?z_X ?z_f ?z_k ?z_a rfl ?_; (case z_X => k_asm); (case z_f => walk_at "mine vv"); (case z_k => k_is); (case z_a => walk_at "mine av")))) | with_reducible (k_fold)) | ((with_reducible show wpAny _ _ (eval (PySem.Expr.Subscript _ _ _) _) _ _ _); first | with_reducible (k_fold)) | ((with_reducible show PyProof.Rows.LCg.CompRest _ _ _ _ _ _ _ _ _ _ _ _ _ _ _ _ _ _ _); first | with_reducible ((k_dflt (refine LCg.CompRest.succ ?_); (intro vz Iz oIz Cz oCz D3z m₂z hz tkz E'z hvz hCz hxz F'z N'z offz nez); (k_dflt (cases hvz)); (try dsimp only)))) | ((with_reducible show PyProof.Rows.LCg.CompEnd _ _ _ _ _ _ _ _ _ _ _ _ _ _); first | with_reducible ((k_here; k_dflt (refine' compend0 ?z_F ?z_N ?z_off ?z_S ?_; (case z_F => with_reducible assumption); (case z_N => first | (with_reducible assumption) | exact News.tl (by with_reducible assumption)); (case z_off => with_reducible assumption); (case z_S => first | (with_reducible exact trivial) | exact .inl (by with_reducible assumption) | exact .inr ⟨_, by k_mem, rfl, _, rfl⟩))))) | ((with_reducible show PySem.W.KCfEl _ _ _ _); first | with_reducible (refine Stop.of ?_) | with_reducible (refine Stop.of ?_)) | ((with_reducible show PySem.W.KCiNo _ _ _ _); first | with_reducible (refine Stop.of ?_)) | ((with_reducible show PySem.W.KCiEl _ _ _ _ _); first | with_reducible (refine Stop.of ?_)) | walk1 | dsimp only)
      refine Stop.go ?_
      refine' LCg.CompSrc.ledger rfl (by with_reducible assumption) (by with_reducible assumption) ?mS5 ?zS5 ?_
      case mS5 => k_mem
      case zS5 => exact Nat.le_of_ble_eq_true rfl
      intro g4
      try dsimp only
      repeat' (first | (k_unfold; (try dsimp only)) | ((with_reducible show wpAny _ _ (subscriptTail (PySem.Expr.Subscript (PySem.Expr.Name _ _) (PySem.Expr.Name _ _) _) (PySem.Expr.Constant _ _ _) (Value.ref _) (Value.int _ _)) _ _ _); first | with_reducible ((((with_reducible show wpAny _ _ (subscriptTail _ _ (Value.ref _) (Value.int 0 _)) _ _ _); k_dflt (refine' pv_item ?z_F ?z_X ?z_hp ?_; (case z_hp => with_reducible assumption); (case z_F => k_asm); (case z_X => k_asm)); intro t9z)))) | ((with_reducible show wpAny _ _ (subscriptTail (PySem.Expr.Name _ _) (PySem.Expr.Name _ _) (Value.ref _) (Value.int _ _)) _ _ _); first | with_reducible ((((with_reducible show wpAny _ _ (subscriptTail _ _ (Value.ref 29) (Value.int _ _)) _ _ _); k_dflt (refine' pv_top ?z_F ?z_X ?z_hk ?_; (case z_F => k_asm); (case z_X => k_asm); (case z_hk => with_reducible assumption)); intro a9z hP9z)))) | ((with_reducible show wpAny _ _ (execs (_ :: _) _) _ _ _); first | with_reducible (((with_reducible show wpAny _ _ (execs (PySem.Stmt.If _ _ _ _ :: _) _) _ _ _); refine Stop.of ?_)) | with_reducible (first | k_fold | ((with_reducible refine wpAny_execs_cons ?_); try dsimp only))) | ((with_reducible show wpAny _ _ (call (Value.builtin "sum") _) _ _ _); first | with_reducible (((with_reducible show wpAny _ _ (call (Value.builtin _) [Value.ref _]) _ _ _); k_dflt (refine' sumN ?z_k0 ?z_k1 ?z_k2 ?z_k3 ?z_k4 ?_; (case z_k0 => rfl); (case z_k1 => k_asm); (case z_k2 => k_asm); (case z_k3 => k_mem); (case z_k4 => with_reducible assumption)); intro h'z tk'z t'z F'z N'z; (try dsimp only)))) | ((with_reducible show wpAny _ _ (call (Value.ref _) _) _ _ _); first | with_reducible ((k_here; (with_reducible show wpAny _ _ (call (Value.ref 174) _) _ _ _); k_dflt (refine' Spec.useE (law_opposite_spec _ _ _ _ _ _ ?z_hb) ?z_B ?z_F ?z_X ?z_N ?z_T ?z_hk ?z_hd ?z_hu ?z_hp ?_; (case z_hb => with_reducible assumption); (((case z_F => k_asm); (case z_N => k_asm); (case z_B => k_asm); (case z_X => k_asm); (case z_T => k_asm); (case z_hk => rfl); (case z_hd => first | exact roomD (by with_reducible assumption) rfl | omega); (case z_hu => first | exact roomU (by with_reducible assumption) rfl | omega))); (case z_hp => exact BoardAt.base (by with_reducible assumption) (by with_reducible assumption))); (intro h9z tk9z F9z N9z)))) | ((with_reducible show wpAny _ _ (eval (PySem.Expr.ListComp _ _ _ _) _) _ _ _); first | with_reducible ((k_here; (with_reducible show wpAny _ _ (eval (PySem.Expr.ListComp _ [⟨PySem.Expr.Name _ _, _, [_], 0⟩] _ _) _) _ _ _); k_dflt (refine LCt.ListComp_T (F₀ := by k_asm) (by with_unfolding_all rfl) (by decide) (by rfl) (by decide) (by rfl) ?_)))) | ((with_reducible show wpAny _ _ (eval (PySem.Expr.Call _ _ _ _) _) _ _ _); first | with_reducible ((k_here; (with_reducible show wpAny _ _ (eval (PySem.Expr.Call (PySem.Expr.Name _ _) (PySem.Expr.Name _ _ :: _) [] _) _) _ _ _); k_dflt (rename Fr _ _ _ _ => F8z; refine' callV F8z ?z_X ?z_f ?z_k ?z_a rfl ?_; (case z_X => k_asm); (case z_f => walk_at "mine vv"); (case z_k => k_is); (case z_a => walk_at "mine av")))) | with_reducible (k_fold)) | ((with_reducible show wpAny _ _ (eval (PySem.Expr.Subscript _ _ _) _) _ _ _); first | with_reducible (k_fold)) | ((with_reducible show PyProof.Rows.LCg.CompRest _ _ _ _ _ _ _ _ _ _ _ _ _ _ _ _ _ _ _); first | with_reducible ((k_dflt (refine LCg.CompRest.succ ?_); (intro vz Iz oIz Cz oCz D3z m₂z hz tkz E'z hvz hCz hxz F'z N'z offz nez); (k_dflt (cases hvz)); (try dsimp only)))) | ((with_reducible show PyProof.Rows.LCg.CompEnd _ _ _ _ _ _ _ _ _ _ _ _ _ _); first | with_reducible ((k_here; k_dflt (refine' compend0 ?z_F ?z_N ?z_off ?z_S ?_; (case z_F => with_reducible assumption); (case z_N => first | (with_reducible assumption) | exact News.tl (by with_reducible assumption)); (case z_off => with_reducible assumption); (case z_S => first | (with_reducible exact trivial) | exact .inl (by with_reducible assumption) | exact .inr ⟨_, by k_mem, rfl, _, rfl⟩))))) | ((with_reducible show PySem.W.KCfEl _ _ _ _); first | with_reducible (refine Stop.of ?_) | with_reducible (refine Stop.of ?_)) | ((with_reducible show PySem.W.KCiNo _ _ _ _); first | with_reducible (refine Stop.of ?_)) | ((with_reducible show PySem.W.KCiEl _ _ _ _ _); first | with_reducible (refine Stop.of ?_)) | walk1 | dsimp only)
      refine Stop.go ?_
      refine' LCt.CompSrcT.ledger rfl (by with_reducible assumption) (by with_reducible assumption) ?mT5 ?zT5 ?_
      case mT5 => k_mem
      case zT5 => rw [List.size_toArray, i0.length, PySem.sizeLine_eq]; omega
      intro g5
      refine' kci_list hvG i0 ?turn5 ?fin5 hvG_grows
      case turn5 =>
        intro k t I oI C oC D m₂ ys l h tk E' hk hI hC hx F' N' off ne mk
        have hk6 := hE0 k hk
        try dsimp only
        repeat' (first | (k_unfold; (try dsimp only)) | ((with_reducible show wpAny _ _ (subscriptTail (PySem.Expr.Subscript (PySem.Expr.Name _ _) (PySem.Expr.Name _ _) _) (PySem.Expr.Constant _ _ _) (Value.ref _) (Value.int _ _)) _ _ _); first | with_reducible ((((with_reducible show wpAny _ _ (subscriptTail _ _ (Value.ref _) (Value.int 0 _)) _ _ _); k_dflt (refine' pv_item ?z_F ?z_X ?z_hp ?_; (case z_hp => with_reducible assumption); (case z_F => k_asm); (case z_X => k_asm)); intro t9z)))) | ((with_reducible show wpAny _ _ (subscriptTail (PySem.Expr.Name _ _) (PySem.Expr.Name _ _) (Value.ref _) (Value.int _ _)) _ _ _); first | with_reducible ((((with_reducible show wpAny _ _ (subscriptTail _ _ (Value.ref 29) (Value.int _ _)) _ _ _); k_dflt (refine' pv_top ?z_F ?z_X ?z_hk ?_; (case z_F => k_asm); (case z_X => k_asm); (case z_hk => with_reducible assumption)); intro a9z hP9z)))) | ((with_reducible show wpAny _ _ (execs (_ :: _) _) _ _ _); first | with_reducible (((with_reducible show wpAny _ _ (execs (PySem.Stmt.If _ _ _ _ :: _) _) _ _ _); refine Stop.of ?_)) | with_reducible (first | k_fold | ((with_reducible refine wpAny_execs_cons ?_); try dsimp only))) | ((with_reducible show wpAny _ _ (call (Value.builtin "sum") _) _ _ _); first | with_reducible (((with_reducible show wpAny _ _ (call (Value.builtin _) [Value.ref _]) _ _ _); k_dflt (refine' sumN ?z_k0 ?z_k1 ?z_k2 ?z_k3 ?z_k4 ?_; (case z_k0 => rfl); (case z_k1 => k_asm); (case z_k2 => k_asm); (case z_k3 => k_mem); (case z_k4 => with_reducible assumption)); intro h'z tk'z t'z F'z N'z; (try dsimp only)))) | ((with_reducible show wpAny _ _ (call (Value.ref _) _) _ _ _); first | with_reducible ((k_here; (with_reducible show wpAny _ _ (call (Value.ref 174) _) _ _ _); k_dflt (refine' Spec.useE (law_opposite_spec _ _ _ _ _ _ ?z_hb) ?z_B ?z_F ?z_X ?z_N ?z_T ?z_hk ?z_hd ?z_hu ?z_hp ?_; (case z_hb => with_reducible assumption); (((case z_F => k_asm); (case z_N => k_asm); (case z_B => k_asm); (case z_X => k_asm); (case z_T => k_asm); (case z_hk => rfl); (case z_hd => first | exact roomD (by with_reducible assumption) rfl | omega); (case z_hu => first | exact roomU (by with_reducible assumption) rfl | omega))); (case z_hp => exact BoardAt.base (by with_reducible assumption) (by with_reducible assumption))); (intro h9z tk9z F9z N9z)))) | ((with_reducible show wpAny _ _ (eval (PySem.Expr.ListComp _ _ _ _) _) _ _ _); first | with_reducible ((k_here; (with_reducible show wpAny _ _ (eval (PySem.Expr.ListComp _ [⟨PySem.Expr.Name _ _, _, [_], 0⟩] _ _) _) _ _ _); k_dflt (refine LCt.ListComp_T (F₀ := by k_asm) (by with_unfolding_all rfl) (by decide) (by rfl) (by decide) (by rfl) ?_)))) | ((with_reducible show wpAny _ _ (eval (PySem.Expr.Call _ _ _ _) _) _ _ _); first | with_reducible ((k_here; (with_reducible show wpAny _ _ (eval (PySem.Expr.Call (PySem.Expr.Name _ _) (PySem.Expr.Name _ _ :: _) [] _) _) _ _ _); k_dflt (rename Fr _ _ _ _ => F8z; refine' callV F8z ?z_X ?z_f ?z_k ?z_a rfl ?_; (case z_X => k_asm); (case z_f => walk_at "mine vv"); (case z_k => k_is); (case z_a => walk_at "mine av")))) | with_reducible (k_fold)) | ((with_reducible show wpAny _ _ (eval (PySem.Expr.Subscript _ _ _) _) _ _ _); first | with_reducible (k_fold)) | ((with_reducible show PyProof.Rows.LCg.CompRest _ _ _ _ _ _ _ _ _ _ _ _ _ _ _ _ _ _ _); first | with_reducible ((k_dflt (refine LCg.CompRest.succ ?_); (intro vz Iz oIz Cz oCz D3z m₂z hz tkz E'z hvz hCz hxz F'z N'z offz nez); (k_dflt (cases hvz)); (try dsimp only)))) | ((with_reducible show PyProof.Rows.LCg.CompEnd _ _ _ _ _ _ _ _ _ _ _ _ _ _); first | with_reducible ((k_here; k_dflt (refine' compend0 ?z_F ?z_N ?z_off ?z_S ?_; (case z_F => with_reducible assumption); (case z_N => first | (with_reducible assumption) | exact News.tl (by with_reducible assumption)); (case z_off => with_reducible assumption); (case z_S => first | (with_reducible exact trivial) | exact .inl (by with_reducible assumption) | exact .inr ⟨_, by k_mem, rfl, _, rfl⟩))))) | ((with_reducible show PySem.W.KCfEl _ _ _ _); first | with_reducible (refine Stop.of ?_) | with_reducible (refine Stop.of ?_)) | ((with_reducible show PySem.W.KCiNo _ _ _ _); first | with_reducible (refine Stop.of ?_)) | ((with_reducible show PySem.W.KCiEl _ _ _ _ _); first | with_reducible (refine Stop.of ?_)) | walk1 | dsimp only)
        all_goals ((refine Stop.go ?_; first | exact kci_el (hvG_yes (by with_reducible assumption) rfl) rfl rfl | exact kci_no (hvG_no (by with_reducible assumption)) rfl))
      case fin5 =>
        unfold KPfDone
        intro ys3 hi3 hl3 D h tk F' N' o1
        have hz3 : ys3.length ≤ 64 := by rw [hi3.length]; have := kpf_len hvG_grows M0 []; simp only [List.length_nil] at this; omega
        try dsimp only
        repeat' (first | (k_unfold; (try dsimp only)) | ((with_reducible show wpAny _ _ (subscriptTail (PySem.Expr.Subscript (PySem.Expr.Name _ _) (PySem.Expr.Name _ _) _) (PySem.Expr.Constant _ _ _) (Value.ref _) (Value.int _ _)) _ _ _); first | with_reducible ((((with_reducible show wpAny _ _ (subscriptTail _ _ (Value.ref _) (Value.int 0 _)) _ _ _); k_dflt (refine' pv_item ?z_F ?z_X ?z_hp ?_; (case z_hp => with_reducible assumption); (case z_F => k_asm); (case z_X => k_asm)); intro t9z)))) | ((with_reducible show wpAny _ _ (subscriptTail (PySem.Expr.Name _ _) (PySem.Expr.Name _ _) (Value.ref _) (Value.int _ _)) _ _ _); first | with_reducible ((((with_reducible show wpAny _ _ (subscriptTail _ _ (Value.ref 29) (Value.int _ _)) _ _ _); k_dflt (refine' pv_top ?z_F ?z_X ?z_hk ?_; (case z_F => k_asm); (case z_X => k_asm); (case z_hk => with_reducible assumption)); intro a9z hP9z)))) | ((with_reducible show wpAny _ _ (execs (_ :: _) _) _ _ _); first | with_reducible (((with_reducible show wpAny _ _ (execs (PySem.Stmt.If _ _ _ _ :: _) _) _ _ _); refine Stop.of ?_)) | with_reducible (first | k_fold | ((with_reducible refine wpAny_execs_cons ?_); try dsimp only))) | ((with_reducible show wpAny _ _ (call (Value.builtin "sum") _) _ _ _); first | with_reducible (((with_reducible show wpAny _ _ (call (Value.builtin _) [Value.ref _]) _ _ _); k_dflt (refine' sumN ?z_k0 ?z_k1 ?z_k2 ?z_k3 ?z_k4 ?_; (case z_k0 => rfl); (case z_k1 => k_asm); (case z_k2 => k_asm); (case z_k3 => k_mem); (case z_k4 => with_reducible assumption)); intro h'z tk'z t'z F'z N'z; (try dsimp only)))) | ((with_reducible show wpAny _ _ (call (Value.ref _) _) _ _ _); first | with_reducible ((k_here; (with_reducible show wpAny _ _ (call (Value.ref 174) _) _ _ _); k_dflt (refine' Spec.useE (law_opposite_spec _ _ _ _ _ _ ?z_hb) ?z_B ?z_F ?z_X ?z_N ?z_T ?z_hk ?z_hd ?z_hu ?z_hp ?_; (case z_hb => with_reducible assumption); (((case z_F => k_asm); (case z_N => k_asm); (case z_B => k_asm); (case z_X => k_asm); (case z_T => k_asm); (case z_hk => rfl); (case z_hd => first | exact roomD (by with_reducible assumption) rfl | omega); (case z_hu => first | exact roomU (by with_reducible assumption) rfl | omega))); (case z_hp => exact BoardAt.base (by with_reducible assumption) (by with_reducible assumption))); (intro h9z tk9z F9z N9z)))) | ((with_reducible show wpAny _ _ (eval (PySem.Expr.ListComp _ _ _ _) _) _ _ _); first | with_reducible ((k_here; (with_reducible show wpAny _ _ (eval (PySem.Expr.ListComp _ [⟨PySem.Expr.Name _ _, _, [_], 0⟩] _ _) _) _ _ _); k_dflt (refine LCt.ListComp_T (F₀ := by k_asm) (by with_unfolding_all rfl) (by decide) (by rfl) (by decide) (by rfl) ?_)))) | ((with_reducible show wpAny _ _ (eval (PySem.Expr.Call _ _ _ _) _) _ _ _); first | with_reducible ((k_here; (with_reducible show wpAny _ _ (eval (PySem.Expr.Call (PySem.Expr.Name _ _) (PySem.Expr.Name _ _ :: _) [] _) _) _ _ _); k_dflt (rename Fr _ _ _ _ => F8z; refine' callV F8z ?z_X ?z_f ?z_k ?z_a rfl ?_; (case z_X => k_asm); (case z_f => walk_at "mine vv"); (case z_k => k_is); (case z_a => walk_at "mine av")))) | with_reducible (k_fold)) | ((with_reducible show wpAny _ _ (eval (PySem.Expr.Subscript _ _ _) _) _ _ _); first | with_reducible (k_fold)) | ((with_reducible show PyProof.Rows.LCg.CompRest _ _ _ _ _ _ _ _ _ _ _ _ _ _ _ _ _ _ _); first | with_reducible ((k_dflt (refine LCg.CompRest.succ ?_); (intro vz Iz oIz Cz oCz D3z m₂z hz tkz E'z hvz hCz hxz F'z N'z offz nez); (k_dflt (cases hvz)); (try dsimp only)))) | ((with_reducible show PyProof.Rows.LCg.CompEnd _ _ _ _ _ _ _ _ _ _ _ _ _ _); first | with_reducible ((k_here; k_dflt (refine' compend0 ?z_F ?z_N ?z_off ?z_S ?_; (case z_F => with_reducible assumption); (case z_N => first | (with_reducible assumption) | exact News.tl (by with_reducible assumption)); (case z_off => with_reducible assumption); (case z_S => first | (with_reducible exact trivial) | exact .inl (by with_reducible assumption) | exact .inr ⟨_, by k_mem, rfl, _, rfl⟩))))) | ((with_reducible show PySem.W.KCfEl _ _ _ _); first | with_reducible (refine Stop.of ?_) | with_reducible (refine Stop.of ?_)) | ((with_reducible show PySem.W.KCiNo _ _ _ _); first | with_reducible (refine Stop.of ?_)) | ((with_reducible show PySem.W.KCiEl _ _ _ _ _); first | with_reducible (refine Stop.of ?_)) | walk1 | dsimp only)
        try dsimp only
        repeat' (first | (k_unfold; (try dsimp only)) | ((with_reducible show wpAny _ _ (subscriptTail (PySem.Expr.Subscript (PySem.Expr.Name _ _) (PySem.Expr.Name _ _) _) (PySem.Expr.Constant _ _ _) (Value.ref _) (Value.int _ _)) _ _ _); first | with_reducible ((((with_reducible show wpAny _ _ (subscriptTail _ _ (Value.ref _) (Value.int 0 _)) _ _ _); k_dflt (refine' pv_item ?z_F ?z_X ?z_hp ?_; (case z_hp => with_reducible assumption); (case z_F => k_asm); (case z_X => k_asm)); intro t9z)))) | ((with_reducible show wpAny _ _ (subscriptTail (PySem.Expr.Name _ _) (PySem.Expr.Name _ _) (Value.ref _) (Value.int _ _)) _ _ _); first | with_reducible ((((with_reducible show wpAny _ _ (subscriptTail _ _ (Value.ref 29) (Value.int _ _)) _ _ _); k_dflt (refine' pv_top ?z_F ?z_X ?z_hk ?_; (case z_F => k_asm); (case z_X => k_asm); (case z_hk => with_reducible assumption)); intro a9z hP9z)))) | ((with_reducible show wpAny _ _ (execs (_ :: _) _) _ _ _); first | with_reducible (((with_reducible show wpAny _ _ (execs (PySem.Stmt.If _ _ _ _ :: _) _) _ _ _); refine Stop.of ?_)) | with_reducible (first | k_fold | ((with_reducible refine wpAny_execs_cons ?_); try dsimp only))) | ((with_reducible show wpAny _ _ (call (Value.builtin "sum") _) _ _ _); first | with_reducible (((with_reducible show wpAny _ _ (call (Value.builtin _) [Value.ref _]) _ _ _); k_dflt (refine' sumN ?z_k0 ?z_k1 ?z_k2 ?z_k3 ?z_k4 ?_; (case z_k0 => rfl); (case z_k1 => k_asm); (case z_k2 => k_asm); (case z_k3 => k_mem); (case z_k4 => with_reducible assumption)); intro h'z tk'z t'z F'z N'z; (try dsimp only)))) | ((with_reducible show wpAny _ _ (call (Value.ref _) _) _ _ _); first | with_reducible ((k_here; (with_reducible show wpAny _ _ (call (Value.ref 174) _) _ _ _); k_dflt (refine' Spec.useE (law_opposite_spec _ _ _ _ _ _ ?z_hb) ?z_B ?z_F ?z_X ?z_N ?z_T ?z_hk ?z_hd ?z_hu ?z_hp ?_; (case z_hb => with_reducible assumption); (((case z_F => k_asm); (case z_N => k_asm); (case z_B => k_asm); (case z_X => k_asm); (case z_T => k_asm); (case z_hk => rfl); (case z_hd => first | exact roomD (by with_reducible assumption) rfl | omega); (case z_hu => first | exact roomU (by with_reducible assumption) rfl | omega))); (case z_hp => exact BoardAt.base (by with_reducible assumption) (by with_reducible assumption))); (intro h9z tk9z F9z N9z)))) | ((with_reducible show wpAny _ _ (eval (PySem.Expr.ListComp _ _ _ _) _) _ _ _); first | with_reducible ((k_here; (with_reducible show wpAny _ _ (eval (PySem.Expr.ListComp _ [⟨PySem.Expr.Name _ _, _, [_], 0⟩] _ _) _) _ _ _); k_dflt (refine LCt.ListComp_T (F₀ := by k_asm) (by with_unfolding_all rfl) (by decide) (by rfl) (by decide) (by rfl) ?_)))) | ((with_reducible show wpAny _ _ (eval (PySem.Expr.Call _ _ _ _) _) _ _ _); first | with_reducible ((k_here; (with_reducible show wpAny _ _ (eval (PySem.Expr.Call (PySem.Expr.Name _ _) (PySem.Expr.Name _ _ :: _) [] _) _) _ _ _); k_dflt (rename Fr _ _ _ _ => F8z; refine' callV F8z ?z_X ?z_f ?z_k ?z_a rfl ?_; (case z_X => k_asm); (case z_f => walk_at "mine vv"); (case z_k => k_is); (case z_a => walk_at "mine av")))) | with_reducible (k_fold)) | ((with_reducible show wpAny _ _ (eval (PySem.Expr.Subscript _ _ _) _) _ _ _); first | with_reducible (k_fold)) | ((with_reducible show PyProof.Rows.LCg.CompRest _ _ _ _ _ _ _ _ _ _ _ _ _ _ _ _ _ _ _); first | with_reducible ((k_dflt (refine LCg.CompRest.succ ?_); (intro vz Iz oIz Cz oCz D3z m₂z hz tkz E'z hvz hCz hxz F'z N'z offz nez); (k_dflt (cases hvz)); (try dsimp only)))) | ((with_reducible show PyProof.Rows.LCg.CompEnd _ _ _ _ _ _ _ _ _ _ _ _ _ _); first | with_reducible ((k_here; k_dflt (refine' compend0 ?z_F ?z_N ?z_off ?z_S ?_; (case z_F => with_reducible assumption); (case z_N => first | (with_reducible assumption) | exact News.tl (by with_reducible assumption)); (case z_off => with_reducible assumption); (case z_S => first | (with_reducible exact trivial) | exact .inl (by with_reducible assumption) | exact .inr ⟨_, by k_mem, rfl, _, rfl⟩))))) | ((with_reducible show PySem.W.KCfEl _ _ _ _); first | with_reducible (refine Stop.of ?_) | with_reducible (refine Stop.of ?_)) | ((with_reducible show PySem.W.KCiNo _ _ _ _); first | with_reducible (refine Stop.of ?_)) | ((with_reducible show PySem.W.KCiEl _ _ _ _ _); first | with_reducible (refine Stop.of ?_)) | walk1 | dsimp only)
        refine Stop.go ?_
        refine' LCt.CompSrcT.ledger rfl (by with_reducible assumption) (by with_reducible assumption) ?mT6 ?zT6 ?_
        case mT6 => k_mem
        case zT6 => rw [List.size_toArray, i1.length, PySem.sizeLine_eq]; omega
        intro g5
        refine' kci_list hvG i1 ?turn6 ?fin6 hvG_grows
        case turn6 =>
          intro k t I oI C oC D m₂ ys l h tk E' hk hI hC hx F' N' off ne mk
          have hk6 := hE1 k hk
          try dsimp only
          repeat' (first | (k_unfold; (try dsimp only)) | ((with_reducible show wpAny _ _ (subscriptTail (PySem.Expr.Subscript (PySem.Expr.Name _ _) (PySem.Expr.Name _ _) _) (PySem.Expr.Constant _ _ _) (Value.ref _) (Value.int _ _)) _ _ _); first | with_reducible ((((with_reducible show wpAny _ _ (subscriptTail _ _ (Value.ref _) (Value.int 0 _)) _ _ _); k_dflt (refine' pv_item ?z_F ?z_X ?z_hp ?_; (case z_hp => with_reducible assumption); (case z_F => k_asm); (case z_X => k_asm)); intro t9z)))) | ((with_reducible show wpAny _ _ (subscriptTail (PySem.Expr.Name _ _) (PySem.Expr.Name _ _) (Value.ref _) (Value.int _ _)) _ _ _); first | with_reducible ((((with_reducible show wpAny _ _ (subscriptTail _ _ (Value.ref 29) (Value.int _ _)) _ _ _); k_dflt (refine' pv_top ?z_F ?z_X ?z_hk ?_; (case z_F => k_asm); (case z_X => k_asm); (case z_hk => with_reducible assumption)); intro a9z hP9z)))) | ((with_reducible show wpAny _ _ (execs (_ :: _) _) _ _ _); first | with_reducible (((with_reducible show wpAny _ _ (execs (PySem.Stmt.If _ _ _ _ :: _) _) _ _ _); refine Stop.of ?_)) | with_reducible (first | k_fold | ((with_reducible refine wpAny_execs_cons ?_); try dsimp only))) | ((with_reducible show wpAny _ _ (call (Value.builtin "sum") _) _ _ _); first | with_reducible (((with_reducible show wpAny _ _ (call (Value.builtin _) [Value.ref _]) _ _ _); k_dflt (refine' sumN ?z_k0 ?z_k1 ?z_k2 ?z_k3 ?z_k4 ?_; (case z_k0 => rfl); (case z_k1 => k_asm); (case z_k2 => k_asm); (case z_k3 => k_mem); (case z_k4 => with_reducible assumption)); intro h'z tk'z t'z F'z N'z; (try dsimp only)))) | ((with_reducible show wpAny _ _ (call (Value.ref _) _) _ _ _); first | with_reducible ((k_here; (with_reducible show wpAny _ _ (call (Value.ref 174) _) _ _ _); k_dflt (refine' Spec.useE (law_opposite_spec _ _ _ _ _ _ ?z_hb) ?z_B ?z_F ?z_X ?z_N ?z_T ?z_hk ?z_hd ?z_hu ?z_hp ?_; (case z_hb => with_reducible assumption); (((case z_F => k_asm); (case z_N => k_asm); (case z_B => k_asm); (case z_X => k_asm); (case z_T => k_asm); (case z_hk => rfl); (case z_hd => first | exact roomD (by with_reducible assumption) rfl | omega); (case z_hu => first | exact roomU (by with_reducible assumption) rfl | omega))); (case z_hp => exact BoardAt.base (by with_reducible assumption) (by with_reducible assumption))); (intro h9z tk9z F9z N9z)))) | ((with_reducible show wpAny _ _ (eval (PySem.Expr.ListComp _ _ _ _) _) _ _ _); first | with_reducible ((k_here; (with_reducible show wpAny _ _ (eval (PySem.Expr.ListComp _ [⟨PySem.Expr.Name _ _, _, [_], 0⟩] _ _) _) _ _ _); k_dflt (refine LCt.ListComp_T (F₀ := by k_asm) (by with_unfolding_all rfl) (by decide) (by rfl) (by decide) (by rfl) ?_)))) | ((with_reducible show wpAny _ _ (eval (PySem.Expr.Call _ _ _ _) _) _ _ _); first | with_reducible ((k_here; (with_reducible show wpAny _ _ (eval (PySem.Expr.Call (PySem.Expr.Name _ _) (PySem.Expr.Name _ _ :: _) [] _) _) _ _ _); k_dflt (rename Fr _ _ _ _ => F8z; refine' callV F8z ?z_X ?z_f ?z_k ?z_a rfl ?_; (case z_X => k_asm); (case z_f => walk_at "mine vv"); (case z_k => k_is); (case z_a => walk_at "mine av")))) | with_reducible (k_fold)) | ((with_reducible show wpAny _ _ (eval (PySem.Expr.Subscript _ _ _) _) _ _ _); first | with_reducible (k_fold)) | ((with_reducible show PyProof.Rows.LCg.CompRest _ _ _ _ _ _ _ _ _ _ _ _ _ _ _ _ _ _ _); first | with_reducible ((k_dflt (refine LCg.CompRest.succ ?_); (intro vz Iz oIz Cz oCz D3z m₂z hz tkz E'z hvz hCz hxz F'z N'z offz nez); (k_dflt (cases hvz)); (try dsimp only)))) | ((with_reducible show PyProof.Rows.LCg.CompEnd _ _ _ _ _ _ _ _ _ _ _ _ _ _); first | with_reducible ((k_here; k_dflt (refine' compend0 ?z_F ?z_N ?z_off ?z_S ?_; (case z_F => with_reducible assumption); (case z_N => first | (with_reducible assumption) | exact News.tl (by with_reducible assumption)); (case z_off => with_reducible assumption); (case z_S => first | (with_reducible exact trivial) | exact .inl (by with_reducible assumption) | exact .inr ⟨_, by k_mem, rfl, _, rfl⟩))))) | ((with_reducible show PySem.W.KCfEl _ _ _ _); first | with_reducible (refine Stop.of ?_) | with_reducible (refine Stop.of ?_)) | ((with_reducible show PySem.W.KCiNo _ _ _ _); first | with_reducible (refine Stop.of ?_)) | ((with_reducible show PySem.W.KCiEl _ _ _ _ _); first | with_reducible (refine Stop.of ?_)) | walk1 | dsimp only)
          all_goals ((refine Stop.go ?_; first | exact kci_el (hvG_yes (by with_reducible assumption) rfl) rfl rfl | exact kci_no (hvG_no (by with_reducible assumption)) rfl))
        case fin6 =>
          unfold KPfDone
          intro ys3 hi3 hl3 D h tk F' N' o1
          have hz3 : ys3.length ≤ 64 := by rw [hi3.length]; have := kpf_len hvG_grows M1 []; simp only [List.length_nil] at this; omega
          try dsimp only
          repeat' (first | (k_unfold; (try dsimp only)) | ((with_reducible show wpAny _ _ (subscriptTail (PySem.Expr.Subscript (PySem.Expr.Name _ _) (PySem.Expr.Name _ _) _) (PySem.Expr.Constant _ _ _) (Value.ref _) (Value.int _ _)) _ _ _); first | with_reducible ((((with_reducible show wpAny _ _ (subscriptTail _ _ (Value.ref _) (Value.int 0 _)) _ _ _); k_dflt (refine' pv_item ?z_F ?z_X ?z_hp ?_; (case z_hp => with_reducible assumption); (case z_F => k_asm); (case z_X => k_asm)); intro t9z)))) | ((with_reducible show wpAny _ _ (subscriptTail (PySem.Expr.Name _ _) (PySem.Expr.Name _ _) (Value.ref _) (Value.int _ _)) _ _ _); first | with_reducible ((((with_reducible show wpAny _ _ (subscriptTail _ _ (Value.ref 29) (Value.int _ _)) _ _ _); k_dflt (refine' pv_top ?z_F ?z_X ?z_hk ?_; (case z_F => k_asm); (case z_X => k_asm); (case z_hk => with_reducible assumption)); intro a9z hP9z)))) | ((with_reducible show wpAny _ _ (execs (_ :: _) _) _ _ _); first | with_reducible (((with_reducible show wpAny _ _ (execs (PySem.Stmt.If _ _ _ _ :: _) _) _ _ _); refine Stop.of ?_)) | with_reducible (first | k_fold | ((with_reducible refine wpAny_execs_cons ?_); try dsimp only))) | ((with_reducible show wpAny _ _ (call (Value.builtin "sum") _) _ _ _); first | with_reducible (((with_reducible show wpAny _ _ (call (Value.builtin _) [Value.ref _]) _ _ _); k_dflt (refine' sumN ?z_k0 ?z_k1 ?z_k2 ?z_k3 ?z_k4 ?_; (case z_k0 => rfl); (case z_k1 => k_asm); (case z_k2 => k_asm); (case z_k3 => k_mem); (case z_k4 => with_reducible assumption)); intro h'z tk'z t'z F'z N'z; (try dsimp only)))) | ((with_reducible show wpAny _ _ (call (Value.ref _) _) _ _ _); first | with_reducible ((k_here; (with_reducible show wpAny _ _ (call (Value.ref 174) _) _ _ _); k_dflt (refine' Spec.useE (law_opposite_spec _ _ _ _ _ _ ?z_hb) ?z_B ?z_F ?z_X ?z_N ?z_T ?z_hk ?z_hd ?z_hu ?z_hp ?_; (case z_hb => with_reducible assumption); (((case z_F => k_asm); (case z_N => k_asm); (case z_B => k_asm); (case z_X => k_asm); (case z_T => k_asm); (case z_hk => rfl); (case z_hd => first | exact roomD (by with_reducible assumption) rfl | omega); (case z_hu => first | exact roomU (by with_reducible assumption) rfl | omega))); (case z_hp => exact BoardAt.base (by with_reducible assumption) (by with_reducible assumption))); (intro h9z tk9z F9z N9z)))) | ((with_reducible show wpAny _ _ (eval (PySem.Expr.ListComp _ _ _ _) _) _ _ _); first | with_reducible ((k_here; (with_reducible show wpAny _ _ (eval (PySem.Expr.ListComp _ [⟨PySem.Expr.Name _ _, _, [_], 0⟩] _ _) _) _ _ _); k_dflt (refine LCt.ListComp_T (F₀ := by k_asm) (by with_unfolding_all rfl) (by decide) (by rfl) (by decide) (by rfl) ?_)))) | ((with_reducible show wpAny _ _ (eval (PySem.Expr.Call _ _ _ _) _) _ _ _); first | with_reducible ((k_here; (with_reducible show wpAny _ _ (eval (PySem.Expr.Call (PySem.Expr.Name _ _) (PySem.Expr.Name _ _ :: _) [] _) _) _ _ _); k_dflt (rename Fr _ _ _ _ => F8z; refine' callV F8z ?z_X ?z_f ?z_k ?z_a rfl ?_; (case z_X => k_asm); (case z_f => walk_at "mine vv"); (case z_k => k_is); (case z_a => walk_at "mine av")))) | with_reducible (k_fold)) | ((with_reducible show wpAny _ _ (eval (PySem.Expr.Subscript _ _ _) _) _ _ _); first | with_reducible (k_fold)) | ((with_reducible show PyProof.Rows.LCg.CompRest _ _ _ _ _ _ _ _ _ _ _ _ _ _ _ _ _ _ _); first | with_reducible ((k_dflt (refine LCg.CompRest.succ ?_); (intro vz Iz oIz Cz oCz D3z m₂z hz tkz E'z hvz hCz hxz F'z N'z offz nez); (k_dflt (cases hvz)); (try dsimp only)))) | ((with_reducible show PyProof.Rows.LCg.CompEnd _ _ _ _ _ _ _ _ _ _ _ _ _ _); first | with_reducible ((k_here; k_dflt (refine' compend0 ?z_F ?z_N ?z_off ?z_S ?_; (case z_F => with_reducible assumption); (case z_N => first | (with_reducible assumption) | exact News.tl (by with_reducible assumption)); (case z_off => with_reducible assumption); (case z_S => first | (with_reducible exact trivial) | exact .inl (by with_reducible assumption) | exact .inr ⟨_, by k_mem, rfl, _, rfl⟩))))) | ((with_reducible show PySem.W.KCfEl _ _ _ _); first | with_reducible (refine Stop.of ?_) | with_reducible (refine Stop.of ?_)) | ((with_reducible show PySem.W.KCiNo _ _ _ _); first | with_reducible (refine Stop.of ?_)) | ((with_reducible show PySem.W.KCiEl _ _ _ _ _); first | with_reducible (refine Stop.of ?_)) | walk1 | dsimp only)
          try dsimp only
          repeat' (first | (k_unfold; (try dsimp only)) | ((with_reducible show wpAny _ _ (subscriptTail (PySem.Expr.Subscript (PySem.Expr.Name _ _) (PySem.Expr.Name _ _) _) (PySem.Expr.Constant _ _ _) (Value.ref _) (Value.int _ _)) _ _ _); first | with_reducible ((((with_reducible show wpAny _ _ (subscriptTail _ _ (Value.ref _) (Value.int 0 _)) _ _ _); k_dflt (refine' pv_item ?z_F ?z_X ?z_hp ?_; (case z_hp => with_reducible assumption); (case z_F => k_asm); (case z_X => k_asm)); intro t9z)))) | ((with_reducible show wpAny _ _ (subscriptTail (PySem.Expr.Name _ _) (PySem.Expr.Name _ _) (Value.ref _) (Value.int _ _)) _ _ _); first | with_reducible ((((with_reducible show wpAny _ _ (subscriptTail _ _ (Value.ref 29) (Value.int _ _)) _ _ _); k_dflt (refine' pv_top ?z_F ?z_X ?z_hk ?_; (case z_F => k_asm); (case z_X => k_asm); (case z_hk => with_reducible assumption)); intro a9z hP9z)))) | ((with_reducible show wpAny _ _ (execs (_ :: _) _) _ _ _); first | with_reducible (((with_reducible show wpAny _ _ (execs (PySem.Stmt.If _ _ _ _ :: _) _) _ _ _); refine Stop.of ?_)) | with_reducible (first | k_fold | ((with_reducible refine wpAny_execs_cons ?_); try dsimp only))) | ((with_reducible show wpAny _ _ (call (Value.builtin "sum") _) _ _ _); first | with_reducible (((with_reducible show wpAny _ _ (call (Value.builtin _) [Value.ref _]) _ _ _); k_dflt (refine' sumN ?z_k0 ?z_k1 ?z_k2 ?z_k3 ?z_k4 ?_; (case z_k0 => rfl); (case z_k1 => k_asm); (case z_k2 => k_asm); (case z_k3 => k_mem); (case z_k4 => with_reducible assumption)); intro h'z tk'z t'z F'z N'z; (try dsimp only)))) | ((with_reducible show wpAny _ _ (call (Value.ref _) _) _ _ _); first | with_reducible ((k_here; (with_reducible show wpAny _ _ (call (Value.ref 174) _) _ _ _); k_dflt (refine' Spec.useE (law_opposite_spec _ _ _ _ _ _ ?z_hb) ?z_B ?z_F ?z_X ?z_N ?z_T ?z_hk ?z_hd ?z_hu ?z_hp ?_; (case z_hb => with_reducible assumption); (((case z_F => k_asm); (case z_N => k_asm); (case z_B => k_asm); (case z_X => k_asm); (case z_T => k_asm); (case z_hk => rfl); (case z_hd => first | exact roomD (by with_reducible assumption) rfl | omega); (case z_hu => first | exact roomU (by with_reducible assumption) rfl | omega))); (case z_hp => exact BoardAt.base (by with_reducible assumption) (by with_reducible assumption))); (intro h9z tk9z F9z N9z)))) | ((with_reducible show wpAny _ _ (eval (PySem.Expr.ListComp _ _ _ _) _) _ _ _); first | with_reducible ((k_here; (with_reducible show wpAny _ _ (eval (PySem.Expr.ListComp _ [⟨PySem.Expr.Name _ _, _, [_], 0⟩] _ _) _) _ _ _); k_dflt (refine LCt.ListComp_T (F₀ := by k_asm) (by with_unfolding_all rfl) (by decide) (by rfl) (by decide) (by rfl) ?_)))) | ((with_reducible show wpAny _ _ (eval (PySem.Expr.Call _ _ _ _) _) _ _ _); first | with_reducible ((k_here; (with_reducible show wpAny _ _ (eval (PySem.Expr.Call (PySem.Expr.Name _ _) (PySem.Expr.Name _ _ :: _) [] _) _) _ _ _); k_dflt (rename Fr _ _ _ _ => F8z; refine' callV F8z ?z_X ?z_f ?z_k ?z_a rfl ?_; (case z_X => k_asm); (case z_f => walk_at "mine vv"); (case z_k => k_is); (case z_a => walk_at "mine av")))) | with_reducible (k_fold)) | ((with_reducible show wpAny _ _ (eval (PySem.Expr.Subscript _ _ _) _) _ _ _); first | with_reducible (k_fold)) | ((with_reducible show PyProof.Rows.LCg.CompRest _ _ _ _ _ _ _ _ _ _ _ _ _ _ _ _ _ _ _); first | with_reducible ((k_dflt (refine LCg.CompRest.succ ?_); (intro vz Iz oIz Cz oCz D3z m₂z hz tkz E'z hvz hCz hxz F'z N'z offz nez); (k_dflt (cases hvz)); (try dsimp only)))) | ((with_reducible show PyProof.Rows.LCg.CompEnd _ _ _ _ _ _ _ _ _ _ _ _ _ _); first | with_reducible ((k_here; k_dflt (refine' compend0 ?z_F ?z_N ?z_off ?z_S ?_; (case z_F => with_reducible assumption); (case z_N => first | (with_reducible assumption) | exact News.tl (by with_reducible assumption)); (case z_off => with_reducible assumption); (case z_S => first | (with_reducible exact trivial) | exact .inl (by with_reducible assumption) | exact .inr ⟨_, by k_mem, rfl, _, rfl⟩))))) | ((with_reducible show PySem.W.KCfEl _ _ _ _); first | with_reducible (refine Stop.of ?_) | with_reducible (refine Stop.of ?_)) | ((with_reducible show PySem.W.KCiNo _ _ _ _); first | with_reducible (refine Stop.of ?_)) | ((with_reducible show PySem.W.KCiEl _ _ _ _ _); first | with_reducible (refine Stop.of ?_)) | walk1 | dsimp only)
          rename News _ _ _ _ => N9
          refine Stop.go ?_
          refine' CutAt.elim (stage_C w f r t1 t2 ab bs hb) ?ho ?_
          case ho => k_is
          intro c9
          refine' c9 ?B ?F ?X ?ok ?oc ?N ?T ?bd ?i0 ?i1 ?m0 ?m1 ?x0 ?x1 ?y0 ?y1 ?ob ?ne ?dd ?uu
          case B => with_reducible assumption
          case F => with_reducible assumption
          case X => with_reducible assumption
          case ok => with_reducible assumption
          case oc => with_reducible assumption
          case N => exact N9
          case T => with_reducible assumption
          case bd => with_reducible assumption
          case i0 => with_reducible assumption
          case i1 => with_reducible assumption
          case m0 => with_reducible assumption
          case m1 => with_reducible assumption
          case x0 => rfl
          case x1 => rfl
          case y0 => rfl
          case y1 => rfl
          case ob => rfl
          case ne => (rename (am ≠ _ ∧ _) => o8; rename (_ ≠ _ ∧ am ≠ _ ∧ _) => o9; exact NeD.cons (Ne.symm o9.2.2.2.2.2.1) (NeD.cons (Ne.symm o8.2.2.2.2.1) hne))
          case dd => with_reducible assumption
          case uu => with_reducible assumption



end
-- part C16
example : True := by w_top off; trivial
section
theorem News.mk2 {h₀ h : Heap} {L : Addr} {p : Addr × Obj} {l all : List (Addr × Obj)} (N : News h₀ L h all) (hp : p ∈ all) (hl : News h₀ L h l) : News h₀ L h (p :: l) := fun q hq => by
  rcases List.mem_cons.mp hq with rfl | hq
  · exact N _ hp
  · exact hl q hq
theorem neL {h₀ h : Heap} {L a dp : Addr} {its : Array Value} {n np : Nat} {es : List DictEntry} {all : List (Addr × Obj)} (N : News h₀ L h all) (hp : (a, listOf its n) ∈ all) (hd : (dp, dictOf es np) ∈ all) : a ≠ dp := fun e => by
  have h1 := (N _ hp).1
  have h2 := (N _ hd).1
  rw [← e] at h2
  have h3 := Option.some.inj (h1.symm.trans h2)
  have h4 : Value.type "list" = Value.type "dict" := congrArg Obj.cls h3
  exact absurd (Value.type.inj h4) (by decide)
theorem neI {h₀ h : Heap} {L a dp C d : Addr} {np : Nat} {es : List DictEntry} {all : List (Addr × Obj)} (N : News h₀ L h all) (hp : (a, instObj C d) ∈ all) (hd : (dp, dictOf es np) ∈ all) : a ≠ dp := fun e => by
  have h1 := (N _ hp).1
  have h2 := (N _ hd).1
  rw [← e] at h2
  have h3 := Option.some.inj (h1.symm.trans h2)
  have h4 : Value.ref C = Value.type "dict" := congrArg Obj.cls h3
  cases h4
theorem neC {h₀ h : Heap} {L a dp : Addr} {o : Obj} {c : Option Value} {np : Nat} {es : List DictEntry} {all : List (Addr × Obj)} (N : News h₀ L h all) (hp : (a, o) ∈ all) (ho : o.data = .cell c) (hd : (dp, dictOf es np) ∈ all) : a ≠ dp := fun e => by
  have h1 := (N _ hp).1
  have h2 := (N _ hd).1
  rw [← e] at h2
  have h3 := Option.some.inj (h1.symm.trans h2)
  have h4 : Data.cell c = Data.dict es.toArray np := by rw [← ho]; exact congrArg Obj.data h3
  cases h4
set_option maxHeartbeats 4000000 in
theorem law_stage_spec (w : World) (f r : Nat) (t1 t2 : Tok) (ab : Addr) (bs : List Int) (hb : Bd f r bs) :
    Spec w 193 30 (fun h => BoardAt h ab bs) [.int (f : Int) t1, .int (r : Int) t2, .ref ab] (fun v tl => tl = [] ∧ v = .bool true) := by
  refine' spec_ofC [(Str.ofString "files", .int (f : Int) t1), (Str.ofString "ranks", .int (r : Int) t2), (Str.ofString "board", .ref ab)] ?h1 ?h2 ?h3 ?h4 ?h5 ?h6 ?h7 ?h8 ?h9 ?_
  case h1 => k_is
  case h2 => k_is
  case h3 => omega
  case h4 => rfl
  case h5 => rfl
  case h6 => rfl
  case h7 => rfl
  case h8 => rfl
  case h9 => decide
  intro mean mg mb dp un gd outer A₀ base g L h₁ tk s cells B F X N Y T hpre hd hu
  k_cells Y
  refine letAE ?_
  intro A9 e9
  have sm9 := stMark s
  obtain ⟨vs, n, m1, i1⟩ := id hpre
  have m2 := isList_of m1
  obtain ⟨hf1, hf2, hr1, hr2, hlen, hent, _, _⟩ := id hb
  obtain ⟨hc, hn1, hn2, hn3, hn4⟩ := fr_bounds hf1 hf2 hr1 hr2
  repeat' (first | (k_unfold; (try dsimp only)) | ((with_reducible show wpAny _ _ (exec (PySem.Stmt.Assign _ (PySem.Expr.ListComp _ _ _ _) _) _) _ _ _); first | with_reducible ((k_here; k_dflt (refine Assign_ListComp_C (F₀ := by k_asm) (by rfl) (by with_unfolding_all rfl) (by with_unfolding_all rfl) (by intro _; rfl) (by intro _; rfl) (by rfl) (by decide) (by rfl) (by rfl) (by rfl) ?_)))) | ((with_reducible show wpAny _ _ (execs (_ :: _) _) _ _ _); first | with_reducible (((with_reducible show wpAny _ _ (execs (PySem.Stmt.Assign _ (PySem.Expr.ListComp (PySem.Expr.Call _ _ _ _) _ _ _) _ :: _) _) _ _ _); refine Stop.of ?_)) | with_reducible (first | k_fold | ((with_reducible refine wpAny_execs_cons ?_); try dsimp only))) | ((with_reducible show wpAny _ _ (eval (PySem.Expr.ListComp _ _ _ _) _) _ _ _); first | with_reducible ((k_here; (with_reducible show wpAny _ _ (eval (PySem.Expr.ListComp _ [⟨PySem.Expr.Name _ _, _, [_], 0⟩] _ _) _) _ _ _); k_dflt (refine LCt.ListComp_T (F₀ := by k_asm) (by with_unfolding_all rfl) (by decide) (by rfl) (by decide) (by rfl) ?_)))) | ((with_reducible show wpAny _ _ (call (Value.ref _) _) _ _ _); first | with_reducible ((k_here; (with_reducible show wpAny _ _ (call (Value.ref 167) _) _ _ _); k_dflt (refine' Spec.use (law_position_spec _ _ _ _ _ _ _ ?z_hb) ?z_B ?z_F ?z_X ?z_N ?z_T ?z_hk ?z_hd ?z_hu ?z_hp ?_; (((case z_F => k_asm); (case z_N => k_asm); (case z_B => k_asm); (case z_X => k_asm); (case z_T => k_asm); (case z_hk => rfl); (case z_hd => first | exact roomD (by with_reducible assumption) rfl | omega); (case z_hu => first | exact roomU (by with_reducible assumption) rfl | omega))); (case z_hb => with_reducible assumption); (case z_hp => exact BoardAt.base (by with_reducible assumption) (by with_reducible assumption))); intro v9z tl9z h9z tk9z F9z N9z D9z o9z; k_dflt (obtain ⟨apz, dpz, agz, dgz, akz, asz, esz, egz, npz, ngz, ckz, csz, kvz, svz, KIz, SIz, e8z, e9z, apartz, okz⟩ := o9z); subst e8z; subst e9z; dsimp only [List.cons_append, List.nil_append] at N9z))) | ((with_reducible show wpAny _ _ (eval (PySem.Expr.Call _ _ _ _) _) _ _ _); first | with_reducible ((k_here; (with_reducible show wpAny _ _ (eval (PySem.Expr.Call (PySem.Expr.Name _ _) (PySem.Expr.Name _ _ :: _) [] _) _) _ _ _); k_dflt (rename Fr _ _ _ _ => F8z; refine' callV F8z ?z_X ?z_f ?z_k ?z_a rfl ?_; (case z_X => k_asm); (case z_f => walk_at "mine vv"); (case z_k => k_is); (case z_a => walk_at "mine av")))) | with_reducible (k_fold)) | ((with_reducible show wpAny _ _ (isTrue (PySem.Expr.Compare _ _ _ _) _ _) _ _ _); first | with_reducible (k_fold)) | ((with_reducible show wpAny _ _ (eval (PySem.Expr.BinOp _ _ _ _) _) _ _ _); first | with_reducible (k_fold)) | ((with_reducible show PyProof.Rows.LCg.CompEnd _ _ _ _ _ _ _ _ _ _ _ _ _ _); first | with_reducible ((k_here; k_dflt (refine' compend0 ?z_F ?z_N ?z_off ?z_S ?_; (case z_F => with_reducible assumption); (case z_N => first | (with_reducible assumption) | exact News.tl (by with_reducible assumption)); (case z_off => with_reducible assumption); (case z_S => first | (with_reducible exact trivial) | exact .inl (by with_reducible assumption) | exact .inr ⟨_, by k_mem, rfl, _, rfl⟩))))) | ((with_reducible show PySem.W.KCiNo _ _ _ _); first | with_reducible (refine Stop.of ?_)) | ((with_reducible show PySem.W.KCiEl _ _ _ _ _); first | with_reducible (refine Stop.of ?_)) | ((with_reducible show CFinA _ _ _ _ _ _ _ _); first | ((intro D'z h'z tk'z F'z N'z oN'z))) | ((with_reducible show CEnd _ _ _ _ _ _ _ _ _ _ _ _ _ _ _); first | with_reducible (refine Stop.of ?_)) | ((with_reducible show CRest _ _ _ _ _ _ _ _ _ _ _ _ _ _ _ _ _ _ _); first | with_reducible ((k_dflt first | refine crest_zero ?_ | (refine crest_succ (by rfl) ?_; intro I'z oI'z C'z oC'z X'z oX'z D'z h'z tk'z E'z hX'z F'z N'z off'z ne'z)))) | ((with_reducible show CSrc _ _ _ _ _ _ _ _ _ _ _ _ _ _ _); first | with_reducible ((k_here; k_dflt (refine' csrc_intro ?z_hh ?z_F ?z_N ?z_m ?z_l ?_; (case z_hh => rfl); (case z_F => k_asm); (case z_N => k_asm); (case z_m => k_mem); (case z_l => exact Nat.le_of_ble_eq_true rfl)); intro g'z))) | walk1 | dsimp only)
  refine Stop.go ?_
  have hsz : vs.toArray.size ≤ sizeLine := by rw [List.size_toArray, i1.length, PySem.sizeLine_eq]; omega
  refine' LCt.CompSrcT.base rfl (by assumption) (by assumption) m2 hsz ?_
  intro g2
  refine' kci_list (menG 0) i1 ?turn1 ?fin1 (menG_grows 0)
  case turn1 =>
    intro k t I oI C oC D m₂ ys l h tk E' hk hI hC hx F' N' off ne mk
    repeat' (first | (k_unfold; (try dsimp only)) | ((with_reducible show wpAny _ _ (exec (PySem.Stmt.Assign _ (PySem.Expr.ListComp _ _ _ _) _) _) _ _ _); first | with_reducible ((k_here; k_dflt (refine Assign_ListComp_C (F₀ := by k_asm) (by rfl) (by with_unfolding_all rfl) (by with_unfolding_all rfl) (by intro _; rfl) (by intro _; rfl) (by rfl) (by decide) (by rfl) (by rfl) (by rfl) ?_)))) | ((with_reducible show wpAny _ _ (execs (_ :: _) _) _ _ _); first | with_reducible (((with_reducible show wpAny _ _ (execs (PySem.Stmt.Assign _ (PySem.Expr.ListComp (PySem.Expr.Call _ _ _ _) _ _ _) _ :: _) _) _ _ _); refine Stop.of ?_)) | with_reducible (first | k_fold | ((with_reducible refine wpAny_execs_cons ?_); try dsimp only))) | ((with_reducible show wpAny _ _ (eval (PySem.Expr.ListComp _ _ _ _) _) _ _ _); first | with_reducible ((k_here; (with_reducible show wpAny _ _ (eval (PySem.Expr.ListComp _ [⟨PySem.Expr.Name _ _, _, [_], 0⟩] _ _) _) _ _ _); k_dflt (refine LCt.ListComp_T (F₀ := by k_asm) (by with_unfolding_all rfl) (by decide) (by rfl) (by decide) (by rfl) ?_)))) | ((with_reducible show wpAny _ _ (call (Value.ref _) _) _ _ _); first | with_reducible ((k_here; (with_reducible show wpAny _ _ (call (Value.ref 167) _) _ _ _); k_dflt (refine' Spec.use (law_position_spec _ _ _ _ _ _ _ ?z_hb) ?z_B ?z_F ?z_X ?z_N ?z_T ?z_hk ?z_hd ?z_hu ?z_hp ?_; (((case z_F => k_asm); (case z_N => k_asm); (case z_B => k_asm); (case z_X => k_asm); (case z_T => k_asm); (case z_hk => rfl); (case z_hd => first | exact roomD (by with_reducible assumption) rfl | omega); (case z_hu => first | exact roomU (by with_reducible assumption) rfl | omega))); (case z_hb => with_reducible assumption); (case z_hp => exact BoardAt.base (by with_reducible assumption) (by with_reducible assumption))); intro v9z tl9z h9z tk9z F9z N9z D9z o9z; k_dflt (obtain ⟨apz, dpz, agz, dgz, akz, asz, esz, egz, npz, ngz, ckz, csz, kvz, svz, KIz, SIz, e8z, e9z, apartz, okz⟩ := o9z); subst e8z; subst e9z; dsimp only [List.cons_append, List.nil_append] at N9z))) | ((with_reducible show wpAny _ _ (eval (PySem.Expr.Call _ _ _ _) _) _ _ _); first | with_reducible ((k_here; (with_reducible show wpAny _ _ (eval (PySem.Expr.Call (PySem.Expr.Name _ _) (PySem.Expr.Name _ _ :: _) [] _) _) _ _ _); k_dflt (rename Fr _ _ _ _ => F8z; refine' callV F8z ?z_X ?z_f ?z_k ?z_a rfl ?_; (case z_X => k_asm); (case z_f => walk_at "mine vv"); (case z_k => k_is); (case z_a => walk_at "mine av")))) | with_reducible (k_fold)) | ((with_reducible show wpAny _ _ (isTrue (PySem.Expr.Compare _ _ _ _) _ _) _ _ _); first | with_reducible (k_fold)) | ((with_reducible show wpAny _ _ (eval (PySem.Expr.BinOp _ _ _ _) _) _ _ _); first | with_reducible (k_fold)) | ((with_reducible show PyProof.Rows.LCg.CompEnd _ _ _ _ _ _ _ _ _ _ _ _ _ _); first | with_reducible ((k_here; k_dflt (refine' compend0 ?z_F ?z_N ?z_off ?z_S ?_; (case z_F => with_reducible assumption); (case z_N => first | (with_reducible assumption) | exact News.tl (by with_reducible assumption)); (case z_off => with_reducible assumption); (case z_S => first | (with_reducible exact trivial) | exact .inl (by with_reducible assumption) | exact .inr ⟨_, by k_mem, rfl, _, rfl⟩))))) | ((with_reducible show PySem.W.KCiNo _ _ _ _); first | with_reducible (refine Stop.of ?_)) | ((with_reducible show PySem.W.KCiEl _ _ _ _ _); first | with_reducible (refine Stop.of ?_)) | ((with_reducible show CFinA _ _ _ _ _ _ _ _); first | ((intro D'z h'z tk'z F'z N'z oN'z))) | ((with_reducible show CEnd _ _ _ _ _ _ _ _ _ _ _ _ _ _ _); first | with_reducible (refine Stop.of ?_)) | ((with_reducible show CRest _ _ _ _ _ _ _ _ _ _ _ _ _ _ _ _ _ _ _); first | with_reducible ((k_dflt first | refine crest_zero ?_ | (refine crest_succ (by rfl) ?_; intro I'z oI'z C'z oC'z X'z oX'z D'z h'z tk'z E'z hX'z F'z N'z off'z ne'z)))) | ((with_reducible show CSrc _ _ _ _ _ _ _ _ _ _ _ _ _ _ _); first | with_reducible ((k_here; k_dflt (refine' csrc_intro ?z_hh ?z_F ?z_N ?z_m ?z_l ?_; (case z_hh => rfl); (case z_F => k_asm); (case z_N => k_asm); (case z_m => k_mem); (case z_l => exact Nat.le_of_ble_eq_true rfl)); intro g'z))) | walk1 | dsimp only)
    all_goals ((refine Stop.go ?_; first | exact kci_el (menG_yes (by with_reducible assumption) (by with_reducible assumption)) rfl rfl | exact kci_no (menG_no (nand1 (by with_reducible assumption))) rfl | exact kci_no (menG_no (nand2 (by with_reducible assumption))) rfl))
  case fin1 =>
    unfold KPfDone
    intro ys hi hlen D h tk F' N' o1
    have eM0 := foldl_menG 0 bs []
    rw [List.nil_append] at eM0
    rw [eM0] at hi
    clear eM0
    obtain ⟨M0, hM0⟩ : ∃ M, M = menL bs 0 := ⟨_, rfl⟩
    rw [← hM0] at hi
    have hE0 : ∀ x ∈ M0, 1 ≤ x ∧ x ≤ 6 := by rw [hM0]; exact menL_ent hb 0
    repeat' (first | (k_unfold; (try dsimp only)) | ((with_reducible show wpAny _ _ (exec (PySem.Stmt.Assign _ (PySem.Expr.ListComp _ _ _ _) _) _) _ _ _); first | with_reducible ((k_here; k_dflt (refine Assign_ListComp_C (F₀ := by k_asm) (by rfl) (by with_unfolding_all rfl) (by with_unfolding_all rfl) (by intro _; rfl) (by intro _; rfl) (by rfl) (by decide) (by rfl) (by rfl) (by rfl) ?_)))) | ((with_reducible show wpAny _ _ (execs (_ :: _) _) _ _ _); first | with_reducible (((with_reducible show wpAny _ _ (execs (PySem.Stmt.Assign _ (PySem.Expr.ListComp (PySem.Expr.Call _ _ _ _) _ _ _) _ :: _) _) _ _ _); refine Stop.of ?_)) | with_reducible (first | k_fold | ((with_reducible refine wpAny_execs_cons ?_); try dsimp only))) | ((with_reducible show wpAny _ _ (eval (PySem.Expr.ListComp _ _ _ _) _) _ _ _); first | with_reducible ((k_here; (with_reducible show wpAny _ _ (eval (PySem.Expr.ListComp _ [⟨PySem.Expr.Name _ _, _, [_], 0⟩] _ _) _) _ _ _); k_dflt (refine LCt.ListComp_T (F₀ := by k_asm) (by with_unfolding_all rfl) (by decide) (by rfl) (by decide) (by rfl) ?_)))) | ((with_reducible show wpAny _ _ (call (Value.ref _) _) _ _ _); first | with_reducible ((k_here; (with_reducible show wpAny _ _ (call (Value.ref 167) _) _ _ _); k_dflt (refine' Spec.use (law_position_spec _ _ _ _ _ _ _ ?z_hb) ?z_B ?z_F ?z_X ?z_N ?z_T ?z_hk ?z_hd ?z_hu ?z_hp ?_; (((case z_F => k_asm); (case z_N => k_asm); (case z_B => k_asm); (case z_X => k_asm); (case z_T => k_asm); (case z_hk => rfl); (case z_hd => first | exact roomD (by with_reducible assumption) rfl | omega); (case z_hu => first | exact roomU (by with_reducible assumption) rfl | omega))); (case z_hb => with_reducible assumption); (case z_hp => exact BoardAt.base (by with_reducible assumption) (by with_reducible assumption))); intro v9z tl9z h9z tk9z F9z N9z D9z o9z; k_dflt (obtain ⟨apz, dpz, agz, dgz, akz, asz, esz, egz, npz, ngz, ckz, csz, kvz, svz, KIz, SIz, e8z, e9z, apartz, okz⟩ := o9z); subst e8z; subst e9z; dsimp only [List.cons_append, List.nil_append] at N9z))) | ((with_reducible show wpAny _ _ (eval (PySem.Expr.Call _ _ _ _) _) _ _ _); first | with_reducible ((k_here; (with_reducible show wpAny _ _ (eval (PySem.Expr.Call (PySem.Expr.Name _ _) (PySem.Expr.Name _ _ :: _) [] _) _) _ _ _); k_dflt (rename Fr _ _ _ _ => F8z; refine' callV F8z ?z_X ?z_f ?z_k ?z_a rfl ?_; (case z_X => k_asm); (case z_f => walk_at "mine vv"); (case z_k => k_is); (case z_a => walk_at "mine av")))) | with_reducible (k_fold)) | ((with_reducible show wpAny _ _ (isTrue (PySem.Expr.Compare _ _ _ _) _ _) _ _ _); first | with_reducible (k_fold)) | ((with_reducible show wpAny _ _ (eval (PySem.Expr.BinOp _ _ _ _) _) _ _ _); first | with_reducible (k_fold)) | ((with_reducible show PyProof.Rows.LCg.CompEnd _ _ _ _ _ _ _ _ _ _ _ _ _ _); first | with_reducible ((k_here; k_dflt (refine' compend0 ?z_F ?z_N ?z_off ?z_S ?_; (case z_F => with_reducible assumption); (case z_N => first | (with_reducible assumption) | exact News.tl (by with_reducible assumption)); (case z_off => with_reducible assumption); (case z_S => first | (with_reducible exact trivial) | exact .inl (by with_reducible assumption) | exact .inr ⟨_, by k_mem, rfl, _, rfl⟩))))) | ((with_reducible show PySem.W.KCiNo _ _ _ _); first | with_reducible (refine Stop.of ?_)) | ((with_reducible show PySem.W.KCiEl _ _ _ _ _); first | with_reducible (refine Stop.of ?_)) | ((with_reducible show CFinA _ _ _ _ _ _ _ _); first | ((intro D'z h'z tk'z F'z N'z oN'z))) | ((with_reducible show CEnd _ _ _ _ _ _ _ _ _ _ _ _ _ _ _); first | with_reducible (refine Stop.of ?_)) | ((with_reducible show CRest _ _ _ _ _ _ _ _ _ _ _ _ _ _ _ _ _ _ _); first | with_reducible ((k_dflt first | refine crest_zero ?_ | (refine crest_succ (by rfl) ?_; intro I'z oI'z C'z oC'z X'z oX'z D'z h'z tk'z E'z hX'z F'z N'z off'z ne'z)))) | ((with_reducible show CSrc _ _ _ _ _ _ _ _ _ _ _ _ _ _ _); first | with_reducible ((k_here; k_dflt (refine' csrc_intro ?z_hh ?z_F ?z_N ?z_m ?z_l ?_; (case z_hh => rfl); (case z_F => k_asm); (case z_N => k_asm); (case z_m => k_mem); (case z_l => exact Nat.le_of_ble_eq_true rfl)); intro g'z))) | walk1 | dsimp only)
    refine Stop.go ?_
    refine' cend_new F' N' (.head _) (fun p hp => .tail _ hp) ?off1 (off1_mem o1) ⟨?src1, ?_⟩
    case off1 => assumption
    case src1 => exact List.Mem.tail _ (by k_mem)
    clear F' N' o1
    repeat' (first | (k_unfold; (try dsimp only)) | ((with_reducible show wpAny _ _ (exec (PySem.Stmt.Assign _ (PySem.Expr.ListComp _ _ _ _) _) _) _ _ _); first | with_reducible ((k_here; k_dflt (refine Assign_ListComp_C (F₀ := by k_asm) (by rfl) (by with_unfolding_all rfl) (by with_unfolding_all rfl) (by intro _; rfl) (by intro _; rfl) (by rfl) (by decide) (by rfl) (by rfl) (by rfl) ?_)))) | ((with_reducible show wpAny _ _ (execs (_ :: _) _) _ _ _); first | with_reducible (((with_reducible show wpAny _ _ (execs (PySem.Stmt.Assign _ (PySem.Expr.ListComp (PySem.Expr.Call _ _ _ _) _ _ _) _ :: _) _) _ _ _); refine Stop.of ?_)) | with_reducible (first | k_fold | ((with_reducible refine wpAny_execs_cons ?_); try dsimp only))) | ((with_reducible show wpAny _ _ (eval (PySem.Expr.ListComp _ _ _ _) _) _ _ _); first | with_reducible ((k_here; (with_reducible show wpAny _ _ (eval (PySem.Expr.ListComp _ [⟨PySem.Expr.Name _ _, _, [_], 0⟩] _ _) _) _ _ _); k_dflt (refine LCt.ListComp_T (F₀ := by k_asm) (by with_unfolding_all rfl) (by decide) (by rfl) (by decide) (by rfl) ?_)))) | ((with_reducible show wpAny _ _ (call (Value.ref _) _) _ _ _); first | with_reducible ((k_here; (with_reducible show wpAny _ _ (call (Value.ref 167) _) _ _ _); k_dflt (refine' Spec.use (law_position_spec _ _ _ _ _ _ _ ?z_hb) ?z_B ?z_F ?z_X ?z_N ?z_T ?z_hk ?z_hd ?z_hu ?z_hp ?_; (((case z_F => k_asm); (case z_N => k_asm); (case z_B => k_asm); (case z_X => k_asm); (case z_T => k_asm); (case z_hk => rfl); (case z_hd => first | exact roomD (by with_reducible assumption) rfl | omega); (case z_hu => first | exact roomU (by with_reducible assumption) rfl | omega))); (case z_hb => with_reducible assumption); (case z_hp => exact BoardAt.base (by with_reducible assumption) (by with_reducible assumption))); intro v9z tl9z h9z tk9z F9z N9z D9z o9z; k_dflt (obtain ⟨apz, dpz, agz, dgz, akz, asz, esz, egz, npz, ngz, ckz, csz, kvz, svz, KIz, SIz, e8z, e9z, apartz, okz⟩ := o9z); subst e8z; subst e9z; dsimp only [List.cons_append, List.nil_append] at N9z))) | ((with_reducible show wpAny _ _ (eval (PySem.Expr.Call _ _ _ _) _) _ _ _); first | with_reducible ((k_here; (with_reducible show wpAny _ _ (eval (PySem.Expr.Call (PySem.Expr.Name _ _) (PySem.Expr.Name _ _ :: _) [] _) _) _ _ _); k_dflt (rename Fr _ _ _ _ => F8z; refine' callV F8z ?z_X ?z_f ?z_k ?z_a rfl ?_; (case z_X => k_asm); (case z_f => walk_at "mine vv"); (case z_k => k_is); (case z_a => walk_at "mine av")))) | with_reducible (k_fold)) | ((with_reducible show wpAny _ _ (isTrue (PySem.Expr.Compare _ _ _ _) _ _) _ _ _); first | with_reducible (k_fold)) | ((with_reducible show wpAny _ _ (eval (PySem.Expr.BinOp _ _ _ _) _) _ _ _); first | with_reducible (k_fold)) | ((with_reducible show PyProof.Rows.LCg.CompEnd _ _ _ _ _ _ _ _ _ _ _ _ _ _); first | with_reducible ((k_here; k_dflt (refine' compend0 ?z_F ?z_N ?z_off ?z_S ?_; (case z_F => with_reducible assumption); (case z_N => first | (with_reducible assumption) | exact News.tl (by with_reducible assumption)); (case z_off => with_reducible assumption); (case z_S => first | (with_reducible exact trivial) | exact .inl (by with_reducible assumption) | exact .inr ⟨_, by k_mem, rfl, _, rfl⟩))))) | ((with_reducible show PySem.W.KCiNo _ _ _ _); first | with_reducible (refine Stop.of ?_)) | ((with_reducible show PySem.W.KCiEl _ _ _ _ _); first | with_reducible (refine Stop.of ?_)) | ((with_reducible show CFinA _ _ _ _ _ _ _ _); first | ((intro D'z h'z tk'z F'z N'z oN'z))) | ((with_reducible show CEnd _ _ _ _ _ _ _ _ _ _ _ _ _ _ _); first | with_reducible (refine Stop.of ?_)) | ((with_reducible show CRest _ _ _ _ _ _ _ _ _ _ _ _ _ _ _ _ _ _ _); first | with_reducible ((k_dflt first | refine crest_zero ?_ | (refine crest_succ (by rfl) ?_; intro I'z oI'z C'z oC'z X'z oX'z D'z h'z tk'z E'z hX'z F'z N'z off'z ne'z)))) | ((with_reducible show CSrc _ _ _ _ _ _ _ _ _ _ _ _ _ _ _); first | with_reducible ((k_here; k_dflt (refine' csrc_intro ?z_hh ?z_F ?z_N ?z_m ?z_l ?_; (case z_hh => rfl); (case z_F => k_asm); (case z_N => k_asm); (case z_m => k_mem); (case z_l => exact Nat.le_of_ble_eq_true rfl)); intro g'z))) | walk1 | dsimp only)
    refine Stop.go ?_
    refine' LCt.CompSrcT.base rfl (by assumption) (by assumption) m2 hsz ?_
    intro g3
    refine' kci_list (menG 1) i1 ?turn2 ?fin2 (menG_grows 1)
    case turn2 =>
      intro k t I oI C oC D m₂ ys l h tk E' hk hI hC hx F' N' off ne mk
      repeat' (first | (k_unfold; (try dsimp only)) | ((with_reducible show wpAny _ _ (exec (PySem.Stmt.Assign _ (PySem.Expr.ListComp _ _ _ _) _) _) _ _ _); first | with_reducible ((k_here; k_dflt (refine Assign_ListComp_C (F₀ := by k_asm) (by rfl) (by with_unfolding_all rfl) (by with_unfolding_all rfl) (by intro _; rfl) (by intro _; rfl) (by rfl) (by decide) (by rfl) (by rfl) (by rfl) ?_)))) | ((with_reducible show wpAny _ _ (execs (_ :: _) _) _ _ _); first | with_reducible (((with_reducible show wpAny _ _ (execs (PySem.Stmt.Assign _ (PySem.Expr.ListComp (PySem.Expr.Call _ _ _ _) _ _ _) _ :: _) _) _ _ _); refine Stop.of ?_)) | with_reducible (first | k_fold | ((with_reducible refine wpAny_execs_cons ?_); try dsimp only))) | ((with_reducible show wpAny _ _ (eval (PySem.Expr.ListComp _ _ _ _) _) _ _ _); first | with_reducible ((k_here; (with_reducible show wpAny _ _ (eval (PySem.Expr.ListComp _ [⟨PySem.Expr.Name _ _, _, [_], 0⟩] _ _) _) _ _ _); k_dflt (refine LCt.ListComp_T (F₀ := by k_asm) (by with_unfolding_all rfl) (by decide) (by rfl) (by decide) (by rfl) ?_)))) | ((with_reducible show wpAny _ _ (call (Value.ref _) _) _ _ _); first | with_reducible ((k_here; (with_reducible show wpAny _ _ (call (Value.ref 167) _) _ _ _); k_dflt (refine' Spec.use (law_position_spec _ _ _ _ _ _ _ ?z_hb) ?z_B ?z_F ?z_X ?z_N ?z_T ?z_hk ?z_hd ?z_hu ?z_hp ?_; (((case z_F => k_asm); (case z_N => k_asm); (case z_B => k_asm); (case z_X => k_asm); (case z_T => k_asm); (case z_hk => rfl); (case z_hd => first | exact roomD (by with_reducible assumption) rfl | omega); (case z_hu => first | exact roomU (by with_reducible assumption) rfl | omega))); (case z_hb => with_reducible assumption); (case z_hp => exact BoardAt.base (by with_reducible assumption) (by with_reducible assumption))); intro v9z tl9z h9z tk9z F9z N9z D9z o9z; k_dflt (obtain ⟨apz, dpz, agz, dgz, akz, asz, esz, egz, npz, ngz, ckz, csz, kvz, svz, KIz, SIz, e8z, e9z, apartz, okz⟩ := o9z); subst e8z; subst e9z; dsimp only [List.cons_append, List.nil_append] at N9z))) | ((with_reducible show wpAny _ _ (eval (PySem.Expr.Call _ _ _ _) _) _ _ _); first | with_reducible ((k_here; (with_reducible show wpAny _ _ (eval (PySem.Expr.Call (PySem.Expr.Name _ _) (PySem.Expr.Name _ _ :: _) [] _) _) _ _ _); k_dflt (rename Fr _ _ _ _ => F8z; refine' callV F8z ?z_X ?z_f ?z_k ?z_a rfl ?_; (case z_X => k_asm); (case z_f => walk_at "mine vv"); (case z_k => k_is); (case z_a => walk_at "mine av")))) | with_reducible (k_fold)) | ((with_reducible show wpAny _ _ (isTrue (PySem.Expr.Compare _ _ _ _) _ _) _ _ _); first | with_reducible (k_fold)) | ((with_reducible show wpAny _ _ (eval (PySem.Expr.BinOp _ _ _ _) _) _ _ _); first | with_reducible (k_fold)) | ((with_reducible show PyProof.Rows.LCg.CompEnd _ _ _ _ _ _ _ _ _ _ _ _ _ _); first | with_reducible ((k_here; k_dflt (refine' compend0 ?z_F ?z_N ?z_off ?z_S ?_; (case z_F => with_reducible assumption); (case z_N => first | (with_reducible assumption) | exact News.tl (by with_reducible assumption)); (case z_off => with_reducible assumption); (case z_S => first | (with_reducible exact trivial) | exact .inl (by with_reducible assumption) | exact .inr ⟨_, by k_mem, rfl, _, rfl⟩))))) | ((with_reducible show PySem.W.KCiNo _ _ _ _); first | with_reducible (refine Stop.of ?_)) | ((with_reducible show PySem.W.KCiEl _ _ _ _ _); first | with_reducible (refine Stop.of ?_)) | ((with_reducible show CFinA _ _ _ _ _ _ _ _); first | ((intro D'z h'z tk'z F'z N'z oN'z))) | ((with_reducible show CEnd _ _ _ _ _ _ _ _ _ _ _ _ _ _ _); first | with_reducible (refine Stop.of ?_)) | ((with_reducible show CRest _ _ _ _ _ _ _ _ _ _ _ _ _ _ _ _ _ _ _); first | with_reducible ((k_dflt first | refine crest_zero ?_ | (refine crest_succ (by rfl) ?_; intro I'z oI'z C'z oC'z X'z oX'z D'z h'z tk'z E'z hX'z F'z N'z off'z ne'z)))) | ((with_reducible show CSrc _ _ _ _ _ _ _ _ _ _ _ _ _ _ _); first | with_reducible ((k_here; k_dflt (refine' csrc_intro ?z_hh ?z_F ?z_N ?z_m ?z_l ?_; (case z_hh => rfl); (case z_F => k_asm); (case z_N => k_asm); (case z_m => k_mem); (case z_l => exact Nat.le_of_ble_eq_true rfl)); intro g'z))) | walk1 | dsimp only)
      all_goals ((refine Stop.go ?_; first | exact kci_el (menG_yes (by with_reducible assumption) (by with_reducible assumption)) rfl rfl | exact kci_no (menG_no (nand1 (by with_reducible assumption))) rfl | exact kci_no (menG_no (nand2 (by with_reducible assumption))) rfl))
    case fin2 =>
      unfold KPfDone
      intro ys2 hi2 hlen2 D h tk F' N' o1
      have eM1 := foldl_menG 1 bs []
      rw [List.nil_append] at eM1
      rw [eM1] at hi2
      clear eM1
      obtain ⟨M1, hM1⟩ : ∃ M, M = menL bs 1 := ⟨_, rfl⟩
      rw [← hM1] at hi2
      have hE1 : ∀ x ∈ M1, 1 ≤ x ∧ x ≤ 6 := by rw [hM1]; exact menL_ent hb 1
      have hLen : M0.length + M1.length ≤ bs.length := by rw [hM0, hM1]; exact menL_len bs
      repeat' (first | (k_unfold; (try dsimp only)) | ((with_reducible show wpAny _ _ (exec (PySem.Stmt.Assign _ (PySem.Expr.ListComp _ _ _ _) _) _) _ _ _); first | with_reducible ((k_here; k_dflt (refine Assign_ListComp_C (F₀ := by k_asm) (by rfl) (by with_unfolding_all rfl) (by with_unfolding_all rfl) (by intro _; rfl) (by intro _; rfl) (by rfl) (by decide) (by rfl) (by rfl) (by rfl) ?_)))) | ((with_reducible show wpAny _ _ (execs (_ :: _) _) _ _ _); first | with_reducible (((with_reducible show wpAny _ _ (execs (PySem.Stmt.Assign _ (PySem.Expr.ListComp (PySem.Expr.Call _ _ _ _) _ _ _) _ :: _) _) _ _ _); refine Stop.of ?_)) | with_reducible (first | k_fold | ((with_reducible refine wpAny_execs_cons ?_); try dsimp only))) | ((with_reducible show wpAny _ _ (eval (PySem.Expr.ListComp _ _ _ _) _) _ _ _); first | with_reducible ((k_here; (with_reducible show wpAny _ _ (eval (PySem.Expr.ListComp _ [⟨PySem.Expr.Name _ _, _, [_], 0⟩] _ _) _) _ _ _); k_dflt (refine LCt.ListComp_T (F₀ := by k_asm) (by with_unfolding_all rfl) (by decide) (by rfl) (by decide) (by rfl) ?_)))) | ((with_reducible show wpAny _ _ (call (Value.ref _) _) _ _ _); first | with_reducible ((k_here; (with_reducible show wpAny _ _ (call (Value.ref 167) _) _ _ _); k_dflt (refine' Spec.use (law_position_spec _ _ _ _ _ _ _ ?z_hb) ?z_B ?z_F ?z_X ?z_N ?z_T ?z_hk ?z_hd ?z_hu ?z_hp ?_; (((case z_F => k_asm); (case z_N => k_asm); (case z_B => k_asm); (case z_X => k_asm); (case z_T => k_asm); (case z_hk => rfl); (case z_hd => first | exact roomD (by with_reducible assumption) rfl | omega); (case z_hu => first | exact roomU (by with_reducible assumption) rfl | omega))); (case z_hb => with_reducible assumption); (case z_hp => exact BoardAt.base (by with_reducible assumption) (by with_reducible assumption))); intro v9z tl9z h9z tk9z F9z N9z D9z o9z; k_dflt (obtain ⟨apz, dpz, agz, dgz, akz, asz, esz, egz, npz, ngz, ckz, csz, kvz, svz, KIz, SIz, e8z, e9z, apartz, okz⟩ := o9z); subst e8z; subst e9z; dsimp only [List.cons_append, List.nil_append] at N9z))) | ((with_reducible show wpAny _ _ (eval (PySem.Expr.Call _ _ _ _) _) _ _ _); first | with_reducible ((k_here; (with_reducible show wpAny _ _ (eval (PySem.Expr.Call (PySem.Expr.Name _ _) (PySem.Expr.Name _ _ :: _) [] _) _) _ _ _); k_dflt (rename Fr _ _ _ _ => F8z; refine' callV F8z ?z_X ?z_f ?z_k ?z_a rfl ?_; (case z_X => k_asm); (case z_f => walk_at "mine vv"); (case z_k => k_is); (case z_a => walk_at "mine av")))) | with_reducible (k_fold)) | ((with_reducible show wpAny _ _ (isTrue (PySem.Expr.Compare _ _ _ _) _ _) _ _ _); first | with_reducible (k_fold)) | ((with_reducible show wpAny _ _ (eval (PySem.Expr.BinOp _ _ _ _) _) _ _ _); first | with_reducible (k_fold)) | ((with_reducible show PyProof.Rows.LCg.CompEnd _ _ _ _ _ _ _ _ _ _ _ _ _ _); first | with_reducible ((k_here; k_dflt (refine' compend0 ?z_F ?z_N ?z_off ?z_S ?_; (case z_F => with_reducible assumption); (case z_N => first | (with_reducible assumption) | exact News.tl (by with_reducible assumption)); (case z_off => with_reducible assumption); (case z_S => first | (with_reducible exact trivial) | exact .inl (by with_reducible assumption) | exact .inr ⟨_, by k_mem, rfl, _, rfl⟩))))) | ((with_reducible show PySem.W.KCiNo _ _ _ _); first | with_reducible (refine Stop.of ?_)) | ((with_reducible show PySem.W.KCiEl _ _ _ _ _); first | with_reducible (refine Stop.of ?_)) | ((with_reducible show CFinA _ _ _ _ _ _ _ _); first | ((intro D'z h'z tk'z F'z N'z oN'z))) | ((with_reducible show CEnd _ _ _ _ _ _ _ _ _ _ _ _ _ _ _); first | with_reducible (refine Stop.of ?_)) | ((with_reducible show CRest _ _ _ _ _ _ _ _ _ _ _ _ _ _ _ _ _ _ _); first | with_reducible ((k_dflt first | refine crest_zero ?_ | (refine crest_succ (by rfl) ?_; intro I'z oI'z C'z oC'z X'z oX'z D'z h'z tk'z E'z hX'z F'z N'z off'z ne'z)))) | ((with_reducible show CSrc _ _ _ _ _ _ _ _ _ _ _ _ _ _ _); first | with_reducible ((k_here; k_dflt (refine' csrc_intro ?z_hh ?z_F ?z_N ?z_m ?z_l ?_; (case z_hh => rfl); (case z_F => k_asm); (case z_N => k_asm); (case z_m => k_mem); (case z_l => exact Nat.le_of_ble_eq_true rfl)); intro g'z))) | walk1 | dsimp only)
      refine Stop.go ?_
      refine' cend_new F' N' (.head _) (fun p hp => .tail _ hp) ?off2 (off1_mem o1) ⟨?src2, ?_⟩
      case off2 => assumption
      case src2 => exact List.Mem.tail _ (by k_mem)
      clear F' N' o1
      repeat' (first | (k_unfold; (try dsimp only)) | ((with_reducible show wpAny _ _ (exec (PySem.Stmt.Assign _ (PySem.Expr.ListComp _ _ _ _) _) _) _ _ _); first | with_reducible ((k_here; k_dflt (refine Assign_ListComp_C (F₀ := by k_asm) (by rfl) (by with_unfolding_all rfl) (by with_unfolding_all rfl) (by intro _; rfl) (by intro _; rfl) (by rfl) (by decide) (by rfl) (by rfl) (by rfl) ?_)))) | ((with_reducible show wpAny _ _ (execs (_ :: _) _) _ _ _); first | with_reducible (((with_reducible show wpAny _ _ (execs (PySem.Stmt.Assign _ (PySem.Expr.ListComp (PySem.Expr.Call _ _ _ _) _ _ _) _ :: _) _) _ _ _); refine Stop.of ?_)) | with_reducible (first | k_fold | ((with_reducible refine wpAny_execs_cons ?_); try dsimp only))) | ((with_reducible show wpAny _ _ (eval (PySem.Expr.ListComp _ _ _ _) _) _ _ _); first | with_reducible ((k_here; (with_reducible show wpAny _ _ (eval (PySem.Expr.ListComp _ [⟨PySem.Expr.Name _ _, _, [_], 0⟩] _ _) _) _ _ _); k_dflt (refine LCt.ListComp_T (F₀ := by k_asm) (by with_unfolding_all rfl) (by decide) (by rfl) (by decide) (by rfl) ?_)))) | ((with_reducible show wpAny _ _ (call (Value.ref _) _) _ _ _); first | with_reducible ((k_here; (with_reducible show wpAny _ _ (call (Value.ref 167) _) _ _ _); k_dflt (refine' Spec.use (law_position_spec _ _ _ _ _ _ _ ?z_hb) ?z_B ?z_F ?z_X ?z_N ?z_T ?z_hk ?z_hd ?z_hu ?z_hp ?_; (((case z_F => k_asm); (case z_N => k_asm); (case z_B => k_asm); (case z_X => k_asm); (case z_T => k_asm); (case z_hk => rfl); (case z_hd => first | exact roomD (by with_reducible assumption) rfl | omega); (case z_hu => first | exact roomU (by with_reducible assumption) rfl | omega))); (case z_hb => with_reducible assumption); (case z_hp => exact BoardAt.base (by with_reducible assumption) (by with_reducible assumption))); intro v9z tl9z h9z tk9z F9z N9z D9z o9z; k_dflt (obtain ⟨apz, dpz, agz, dgz, akz, asz, esz, egz, npz, ngz, ckz, csz, kvz, svz, KIz, SIz, e8z, e9z, apartz, okz⟩ := o9z); subst e8z; subst e9z; dsimp only [List.cons_append, List.nil_append] at N9z))) | ((with_reducible show wpAny _ _ (eval (PySem.Expr.Call _ _ _ _) _) _ _ _); first | with_reducible ((k_here; (with_reducible show wpAny _ _ (eval (PySem.Expr.Call (PySem.Expr.Name _ _) (PySem.Expr.Name _ _ :: _) [] _) _) _ _ _); k_dflt (rename Fr _ _ _ _ => F8z; refine' callV F8z ?z_X ?z_f ?z_k ?z_a rfl ?_; (case z_X => k_asm); (case z_f => walk_at "mine vv"); (case z_k => k_is); (case z_a => walk_at "mine av")))) | with_reducible (k_fold)) | ((with_reducible show wpAny _ _ (isTrue (PySem.Expr.Compare _ _ _ _) _ _) _ _ _); first | with_reducible (k_fold)) | ((with_reducible show wpAny _ _ (eval (PySem.Expr.BinOp _ _ _ _) _) _ _ _); first | with_reducible (k_fold)) | ((with_reducible show PyProof.Rows.LCg.CompEnd _ _ _ _ _ _ _ _ _ _ _ _ _ _); first | with_reducible ((k_here; k_dflt (refine' compend0 ?z_F ?z_N ?z_off ?z_S ?_; (case z_F => with_reducible assumption); (case z_N => first | (with_reducible assumption) | exact News.tl (by with_reducible assumption)); (case z_off => with_reducible assumption); (case z_S => first | (with_reducible exact trivial) | exact .inl (by with_reducible assumption) | exact .inr ⟨_, by k_mem, rfl, _, rfl⟩))))) | ((with_reducible show PySem.W.KCiNo _ _ _ _); first | with_reducible (refine Stop.of ?_)) | ((with_reducible show PySem.W.KCiEl _ _ _ _ _); first | with_reducible (refine Stop.of ?_)) | ((with_reducible show CFinA _ _ _ _ _ _ _ _); first | ((intro D'z h'z tk'z F'z N'z oN'z))) | ((with_reducible show CEnd _ _ _ _ _ _ _ _ _ _ _ _ _ _ _); first | with_reducible (refine Stop.of ?_)) | ((with_reducible show CRest _ _ _ _ _ _ _ _ _ _ _ _ _ _ _ _ _ _ _); first | with_reducible ((k_dflt first | refine crest_zero ?_ | (refine crest_succ (by rfl) ?_; intro I'z oI'z C'z oC'z X'z oX'z D'z h'z tk'z E'z hX'z F'z N'z off'z ne'z)))) | ((with_reducible show CSrc _ _ _ _ _ _ _ _ _ _ _ _ _ _ _); first | with_reducible ((k_here; k_dflt (refine' csrc_intro ?z_hh ?z_F ?z_N ?z_m ?z_l ?_; (case z_hh => rfl); (case z_F => k_asm); (case z_N => k_asm); (case z_m => k_mem); (case z_l => exact Nat.le_of_ble_eq_true rfl)); intro g'z))) | walk1 | dsimp only)
      refine Stop.go ?_
      rename Fr _ _ _ _ => F9
      rename News _ _ _ _ => N9
      rename Apart _ _ _ _ _ _ => ap9
      refine' CutAt.elim (stage_B w f r t1 t2 ab bs hb) ?ho ?_
      case ho => k_is
      intro c9
      refine' c9 ?B ?F ?X ?ok ?oc ?N ?T ?bd ?i0 ?i1 ?m0 ?m1 ?ne ?dd ?uu
      case B => with_reducible assumption
      case F => exact F9
      case X => with_reducible assumption
      case ok => with_reducible assumption
      case N => exact News.mk2 N9 (by k_mem) (News.mk2 N9 (by k_mem) (News.mk2 N9 (by k_mem) (News.mk2 N9 (by k_mem) (News.mk2 N9 (by k_mem) (News.mk2 N9 (by k_mem) (News.mk2 N9 (by k_mem) (News.mk2 N9 (by k_mem) (News.mk2 N9 (by k_mem) (News.mk2 N9 (by k_mem) (News.nil))))))))))
      case T => with_reducible assumption
      case bd => with_reducible assumption
      case oc => assumption
      case i0 => with_reducible assumption
      case i1 => with_reducible assumption
      case m0 => with_reducible assumption
      case m1 => with_reducible assumption
      case ne => exact NeD.cons (neL N9 (by k_mem) (by k_mem)) (NeD.cons (neL N9 (by k_mem) (by k_mem)) (NeD.cons (neL N9 (by k_mem) (by k_mem)) (NeD.cons (neI N9 (by k_mem) (by k_mem)) (NeD.cons (neI N9 (by k_mem) (by k_mem)) (NeD.cons ((Ne.symm ap9.2.2.2.2.2.2.1)) (NeD.cons (neL N9 (by k_mem) (by k_mem)) (NeD.cons (neL N9 (by k_mem) (by k_mem)) (NeD.cons (neC N9 (by k_mem) (by assumption) (by k_mem)) ((fun _ h => nomatch h))))))))))
      case dd => with_reducible assumption
      case uu => with_reducible assumption



end
-- part F0
example : True := by w_top off; trivial
section
theorem pick_mem {ns : List Int} {lo hi st : Option Int} : ∀ x ∈ pickNums ns lo hi st, x ∈ ns := fun x hx => by
  unfold pickNums at hx
  simp only [List.mem_filterMap] at hx
  obtain ⟨i, _, hi⟩ := hx
  exact List.mem_of_getElem? hi
theorem bounds_odd {n : Nat} (h : 0 < n) : sliceBounds (some 1) none (some 2) n = (1, (n : Int), 2) := by
  show ((max 0 (min (1 : Int) (n : Int)), (n : Int), (2 : Int)) : Int × Int × Int) = _
  rw [show max 0 (min (1 : Int) (n : Int)) = 1 by lia]
theorem range_odd {n : Nat} (h : 0 < n) : (sliceRange 1 (n : Int) 2).length < n := by
  unfold sliceRange
  rw [List.length_map, List.length_range, if_pos (by decide)]
  split <;> lia
theorem pick_len {ns : List Int} (h : 0 < ns.length) : (pickNums ns (some 1) none (some 2)).length < ns.length := by
  unfold pickNums
  refine Nat.lt_of_le_of_lt (List.length_filterMap_le _ _) ?_
  rw [bounds_odd h]
  exact range_odd h
theorem step_slice {prog : Program} {w : World} {A : Around} {E : Value → Shared → Prop} {s : Shared} {h₀ : Heap} {L l : Addr} {m : PySem.Str → Option Value} {news : List (Addr × Obj)} {value slice : PySem.Expr} {vs : List Value} {ns : List Int} {n : Nat} {vl vu vk : Value} {lo hi st : Option Int} {ops : List Value} {Q : Value → Shared → Prop}
    (F : Fr h₀ L s.heap m) (N : News h₀ L s.heap news) (hm : (l, listOf vs.toArray n) ∈ news) (hi' : IntsAre vs ns) (hb : ns.length ≤ 64) (pl : IsPart vl lo) (pu : IsPart vu hi) (pk : IsPart vk st) (h0 : st ≠ some 0)
    (h : ∀ D ws h', Fr h₀ L h' m → News h₀ L h' ((D, listOf (List.toArray ws) 0) :: news) → (∀ p ∈ news, p.1 < D) → IntsAre ws (pickNums ns lo hi st) → Q (.ref D) { s with heap := h' })
    (hs : subscripted slice false (.ref l) (.ref s.heap.objs.size) = operate ops (getItem (.ref l) (.ref s.heap.objs.size))) (ht : ∀ r, letTemporaryGo value (.ref l) r = pure ()) :
    wpAny (model prog w) A (subscriptTail value slice (.ref l) (.ref s.heap.objs.size)) Q E { s with heap := s.heap.push { cls := .type "slice", data := .fields #[vl, vu, vk] } } := by
  refine slice_list3 F N (isList_of (N _ hm).1) pl pu pk h0 (fun h' F' N' => h _ (slicePick vs.toArray lo hi st).toList h' F' ?_ (fun p hp => Nat.lt_succ_of_lt (Heap.lt_size (N p hp).1)) (hi'.pick lo hi st)) hs ht ?_
  · rw [Array.toArray_toList]
    exact N'
  · rw [List.size_toArray, hi'.length, PySem.sizeLine_eq]; lia
theorem itemN {prog : Program} {w : World} {A : Around} {E : Value → Shared → Prop} {s : Shared} {h₀ : Heap} {L l : Addr} {news : List (Addr × Obj)} {value slice : PySem.Expr} {vs : List Value} {ns : List Int} {n : Nat} {k : Int} {u : Tok} {Q : Value → Shared → Prop}
    (N : News h₀ L s.heap news) (hm : (l, listOf vs.toArray n) ∈ news) (hi : IntsAre vs ns) (h0 : 0 ≤ k) (h1 : k < (ns.length : Int)) (hk : k < 2 ^ 63) (h : ∀ t, Q (.int (ns.getD k.toNat 0) t) s)
    (hs : subscripted slice false (.ref l) (.int k u) = operate [.ref l, .int k u] (getItem (.ref l) (.int k u)) := by with_unfolding_all rfl) :
    wpAny (model prog w) A (subscriptTail value slice (.ref l) (.int k u)) Q E s := by
  have hl := isList_of (N _ hm).1
  have hlt : k.toNat < ns.length := by lia
  have hx : ns[k.toNat]? = some (ns.getD k.toNat 0) := by rw [List.getD_eq_getElem?_getD, List.getElem?_eq_getElem hlt]; rfl
  obtain ⟨t, ht⟩ := hi.get k.toNat _ hx
  exact tail_any hl.typeIs slot_list_getitem.lookup (wpAny_getItem_list hl h0 hk (by simpa using ht) (h t)) hs
theorem copyN {prog : Program} {w : World} {A : Around} {E : Value → Shared → Prop} {s : Shared} {h₀ : Heap} {L l : Addr} {m : PySem.Str → Option Value} {news : List (Addr × Obj)} {vs : List Value} {ns : List Int} {n : Nat} {Q : Value → Shared → Prop} (F : Fr h₀ L s.heap m) (N : News h₀ L s.heap news) (hm : (l, listOf vs.toArray n) ∈ news) (hi : IntsAre vs ns) (hb : ns.length ≤ 64)
    (h : ∀ D c h', Fr h₀ L h' m → News h₀ L h' ((D, listOf vs.toArray c) :: news) → (∀ q ∈ news, q.1 < D) → Q (.ref D) { s with heap := h' }) : wpAny (model prog w) A (call (.type "list") [.ref l]) Q E s :=
  list_copyK F N (isList_of (N _ hm).1) h (by rw [List.size_toArray, hi.length, PySem.sizeLine_eq]; lia)
/-- every square of lb is on the board, and no king stands there -/
noncomputable def LaidOk (lb bs : List Int) : Prop := ∀ x ∈ lb, 0 ≤ x ∧ x < (bs.length : Int) ∧ bs.getD x.toNat 0 ≠ 6 ∧ bs.getD x.toNat 0 ≠ 14
theorem LaidOk.store {lb bs : List Int} (h : LaidOk lb bs) {i : Nat} (hi : i < bs.length) : LaidOk lb (bs.set i 0) := fun x hx => by
  obtain ⟨a, b, c, d⟩ := h x hx
  refine ⟨a, by rw [List.length_set]; exact b, ?_, ?_⟩
  · rw [getD_set' _ _ _ _ hi]; split; decide; exact c
  · rw [getD_set' _ _ _ _ hi]; split; decide; exact d
theorem LaidOk.sub {lb l' bs : List Int} (h : LaidOk lb bs) (hs : ∀ x ∈ l', x ∈ lb) : LaidOk l' bs := fun x hx => h x (hs x hx)
section
variable {prog : Program} {w : World} {A : Around} {E : Value → Shared → Prop} {s : Shared} {env : Env} {h₀ : Heap} {x : PySem.Str} {body : List Stmt} {Q : Flow → Shared → Prop}
noncomputable abbrev KFacts (f r : Nat) (lb : List Int) (c : List Value × List Int) : Prop := IntsAre c.1 c.2 ∧ Bd f r c.2 ∧ LaidOk lb c.2
theorem laid_loop {f r : Nat} {D2 Db : Addr} {ws : List Value} {ms lb : List Int} {k2 nb : Nat} {vb : List Value} {bs : List Int} {m₀ : PySem.Str → Option Value} {rest : List (Addr × Obj)}
    (hh : A.handled = none) (hi : IntsAre ws ms) (hsub : ∀ y ∈ ms, y ∈ lb) (hm : (D2, listOf ws.toArray k2) ∈ rest) (hne : ∀ p ∈ rest, p.1 ≠ Db) (F : Fr h₀ env.locals s.heap m₀) (N : News h₀ env.locals s.heap ((Db, listOf vb.toArray nb) :: rest)) (ib : IntsAre vb bs) (hb : Bd f r bs) (hk : LaidOk lb bs)
    (turn : ∀ (vb : List Value) (bs pre : List Int) (n : Int) t (u : PySem.Str → Option Value) h tk own, n ∈ lb → IntsAre vb bs → Bd f r bs → LaidOk lb bs → (∀ p ∈ rest ++ own, p.1 ≠ Db) →
      Fr h₀ env.locals h (fun y => if y = x then some (.int n t) else m₀ y) → News h₀ env.locals h ((Db, listOf vb.toArray nb) :: (rest ++ own)) →
      wpAny (model prog w) A (execs body env) (InvPostN h₀ env.locals (KstS (BLed Db nb rest) (fun _ => []) (KFacts f r lb) x [] m₀ (fun _ _ => True) (pre ++ [n])) own (Db :: rest.map (·.1)) { s with heap := h, toks := tk } Q) E { s with heap := h, toks := tk })
    (done : ∀ (vb : List Value) (bs : List Int) (u : PySem.Str → Option Value) h tk, IntsAre vb bs → Bd f r bs → LaidOk lb bs → Fr h₀ env.locals h (fun y => if y = x then u y else m₀ y) → News h₀ env.locals h ((Db, listOf vb.toArray nb) :: rest) → Q .next { s with heap := h, toks := tk }) :
    wpAny (model prog w) A (pyIter (.ref D2)) (fun it s₂ => LoopAtV prog w A h₀ env x body Q E it s₂) E s := by
  refine kst_listL (ns := ms) (vs := ws) (nn := k2) (BLed Db nb rest) (fun _ => []) (KFacts f r lb) [] (fun _ _ => True) (vb, bs) hh (fun c => List.mem_cons_of_mem _ hm) hi F N ⟨ib, hb, hk⟩ (fun _ h => nomatch h) trivial ?_ ?_
  · rintro ⟨vb, bs⟩ pre post n t u h tk own _ hmem hoff ⟨j1, j2, j3⟩ _ F2 N2
    rw [kst_clean'] at F2
    refine turn vb bs pre n t u h tk own (hsub n hmem) j1 j2 j3 (fun p hp => ?_) F2 N2
    rcases List.mem_append.mp hp with hp | hp
    · exact hne p hp
    · exact hoff p hp Db (.head _)
  · rintro ⟨vb, bs⟩ u h tk ⟨j1, j2, j3⟩ _ F2 N2
    rw [kst_clean'] at F2
    exact done vb bs u h tk j1 j2 j3 F2 N2
theorem laid_loop_end {f r : Nat} {Db : Addr} {nb : Nat} {rest own : List (Addr × Obj)} {m₀ m' : PySem.Str → Option Value} {pre lb : List Int} {vb : List Value} {bs : List Int} {s₁ : Shared} {h' : Heap} {tk : Nat} {L : Addr}
    (F : Fr h₀ L h' m') (N : News h₀ L h' ((Db, listOf vb.toArray nb) :: (rest ++ own))) (ib : IntsAre vb bs) (hb : Bd f r bs) (hk : LaidOk lb bs) (hr : ∀ z, z ≠ x → (∀ p ∈ ([] : List (PySem.Str × Value)), z ≠ p.1) → ([] : List PySem.Str).contains z = false → m' z = m₀ z) :
    InvEndN h₀ L (KstS (BLed Db nb rest) (fun _ => []) (KFacts f r lb) x [] m₀ (fun _ _ => True) pre) own (Db :: rest.map (·.1)) s₁ { s₁ with heap := h', toks := tk } :=
  kst_end (vb, bs) F N (fun p hp => List.mem_append_left own (as := BLed Db nb rest (vb, bs)) hp) (fun p hp => List.mem_append_right (BLed Db nb rest (vb, bs)) hp) rfl ⟨ib, hb, hk⟩ (fun _ h => nomatch h) hr trivial
end
structure LawSt where
  (ab al : Addr)
  (vb vl : List Value)
  (bs lb : List Int)
  (nb nl : Nat)
  (oc : Obj)
theorem BoardAt.ofN {h₀ h : Heap} {L a : Addr} {news : List (Addr × Obj)} {vs : List Value} {bs : List Int} {n : Nat} (N : News h₀ L h news) (hm : (a, listOf vs.toArray n) ∈ news) (hi : IntsAre vs bs) : BoardAt h a bs := ⟨vs, n, (N _ hm).1, hi⟩
end
-- part F1
example : True := by w_top off; trivial
section
theorem setN {w : World} {A : Around} {E : Value → Shared → Prop} {s : Shared} {h₀ : Heap} {L Db : Addr} {m : PySem.Str → Option Value} {rest : List (Addr × Obj)} {vb : List Value} {bs : List Int} {nb : Nat} {k v : Int} {t u : Tok} {Q : Unit → Shared → Prop}
    (F : Fr h₀ L s.heap m) (N : News h₀ L s.heap ((Db, listOf vb.toArray nb) :: rest)) (hne : ∀ p ∈ rest, p.1 ≠ Db) (ib : IntsAre vb bs) (h0 : 0 ≤ k) (h1 : k < (bs.length : Int)) (hb : bs.length ≤ 64)
    (h : ∀ h', Fr h₀ L h' m → News h₀ L h' ((Db, listOf (vb.set k.toNat (.int v u)).toArray nb) :: rest) → IntsAre (vb.set k.toNat (.int v u)) (bs.set k.toNat v) → Q () { s with heap := h' }) :
    wpAny (model PR w) A (setItem (.ref Db) (.int k t) (.int v u)) Q E s :=
  made_set F N (decide_eq_true ⟨h0, by omega, by rw [ib.length]; exact h1⟩) rfl (Upd.head hne) fun h' F' N' => h h' F' N' (ints_set ib _)
set_option maxHeartbeats 1500000 in
theorem law_C (w : World) : CutAt w 198 6 fun rest qual scope _ => ∀ {mean : ExcName → Option Value} {mg mb : PySem.Str → Option Value} {dp un : Nat} {gd : Option (List Code)} {outer : List Env} {A₀ : Around} {base g h : Heap} {L : Addr} {tk : Nat} {s : Shared} {fa : Addr} {cd : Value} {sa ad ab al : Addr} {f r : Nat} {t1 t2 : Tok} {dv vb vl : List Value} {ns bs lb : List Int} {nd nb nl : Nat} {oc : Obj}, Below A₀ base outer g → Fr g L h (fun y => if y = Str.ofString "laid" then some (Value.ref al) else if y = Str.ofString "ranks" then some (Value.int (r : Int) t2) else if y = Str.ofString "files" then some (Value.int (f : Int) t1) else if y = Str.ofString "drawn" then some (Value.ref ad) else bindL (envOfC qual scope L fa cd).kindOf [(Str.ofString "script", .ref sa)] (fun _ => none) y) → (hd.heap_1 w.params).In g → Top topView (looseW topView [PySem.Str.ofString "PIECE_VALUES"]) mean mg mb g → News g L h [(al, listOf vl.toArray nl), (ab, listOf vb.toArray nb), (ad, listOf dv.toArray nd), (L + 1, oc)] → oc.data = .cell (some (.ref ab)) → IntsAre vl lb → IntsAre vb bs → IntsAre dv ns → Bd f r bs → LaidOk lb bs → lb.length ≤ 64 → 2 ≤ ns.length → ns.length ≤ 63 → AllLt ad [(L + 1, oc)] → NeAll ab [(ad, oc), (L + 1, oc)] → NeAll al [(ab, oc), (ad, oc), (L + 1, oc)] → dp + 50 < recursionLimit → un + 8 * 50 < cLine → wpAny (model PySem.Challenge.rw_nt0419_01.row.prog w) (ktrTop (dp + 1) (un + 3) gd qual scope L fa cd (cellsFrom (L + 1) scope.names []) outer) (execs rest (envOfC qual scope L fa cd)) (BodyQ (fun v _ => v = .bool true) g L s) (fun _ _ => False) { s with heap := h, toks := tk } := by
  refine' CutAt.of ?ho ?_
  case ho => k_is
  dsimp only [List.drop]
  intro mean mg mb dp un gd outer A₀ base g h L tk s fa cd sa ad ab al f r t1 t2 dv vb vl ns bs lb nd nb nl oc B F X T N hoc il ib id hb hok hl64 hl1 hl2 lt1 lt2 lt3 hdd huu
  refine letAE ?_
  intro A9 e9
  have sm9 := stMark s
  have mk9 := kstMark
  repeat' (first | (k_unfold; (try dsimp only)) | ((with_reducible show wpAny _ _ (exec (PySem.Stmt.For (PySem.Expr.Name _ _) (PySem.Expr.Subscript _ _ _) _ _ _) _) _ _ _); first | with_reducible (walk_at "exec For Name Call cons nil")) | ((with_reducible show wpAny _ _ (exec (PySem.Stmt.While (PySem.Expr.Compare _ _ _ _) _ _ _) _) _ _ _); first | with_reducible (refine Stop.of ?_)) | ((with_reducible show wpAny _ _ (subscriptTail (PySem.Expr.Name _ _) (PySem.Expr.Slice _ _ _ _) (Value.ref _) (Value.ref _)) _ _ _); first | with_reducible ((k_here; (with_reducible show wpAny _ _ (subscriptTail _ (PySem.Expr.Slice _ none (some _) _) (Value.ref _) (Value.ref _)) _ _ _); k_dflt (refine' step_slice ?z_F ?z_N ?z_m ?z_i ?z_b ?z_p ?z_q ?z_r ?z_o ?_ ?z_s ?z_t; (case z_F => k_asm); (case z_N => k_asm); (case z_m => k_mem); (case z_i => with_reducible assumption); (case z_b => with_reducible assumption); (case z_p => kmk_part); (case z_q => kmk_part); (case z_r => kmk_part); (case z_o => decide); (case z_s => with_unfolding_all rfl); (case z_t => kmk_pure)); intro D'z vs'z h'z F'z N'z l1z hv'z; (try k_lt l1z)))) | ((with_reducible show wpAny _ _ (setItem (Value.ref _) (Value.int _ _) _) _ _ _); first | with_reducible ((k_here; (with_reducible show wpAny _ _ (setItem (Value.ref _) (Value.int _ _) (Value.int _ _)) _ _ _); k_dflt (refine' setN ?z_F ?z_N ?z_ne ?z_ib ?z_h0 ?z_h1 ?z_hb ?_; (case z_F => with_reducible assumption); (case z_N => with_reducible assumption); (case z_ne => with_reducible assumption); (case z_ib => with_reducible assumption); (case z_h0 => with_reducible assumption); (case z_h1 => with_reducible assumption); (case z_hb => with_reducible assumption)); intro h'z F'z N'z ib'z))) | ((with_reducible show wpAny _ _ (execs (_ :: _) _) _ _ _); first | with_reducible (k_fold) | with_reducible (first | k_fold | ((with_reducible refine wpAny_execs_cons ?_); try dsimp only))) | ((with_reducible show wpAny _ _ (call (Value.type "list") _) _ _ _); first | with_reducible ((k_here; (with_reducible show wpAny _ _ (call (Value.type _) [Value.ref _]) _ _ _); k_dflt (refine' copyN ?z_F ?z_N ?z_m ?z_i ?z_b ?_; (case z_F => k_asm); (case z_N => k_asm); (case z_m => k_mem); (case z_i => with_reducible assumption); (case z_b => with_reducible assumption)); intro D'z c'z h'z F'z N'z l1z; (try k_lt l1z); (try dsimp only)))) | ((with_reducible show wpAny _ _ (call (Value.ref _) _) _ _ _); first | with_reducible ((k_here; (with_reducible show wpAny _ _ (call (Value.ref 160) _) _ _ _); k_dflt (refine' Spec.use (law_ending_spec _ _ _ _ _ _ _ ?z_a1 ?z_a2 ?z_a3 ?z_a4 ?z_a5 ?z_a6) ?z_B ?z_F ?z_X ?z_N ?z_T ?z_hk ?z_hd ?z_hu ?z_hp ?_; (((case z_F => k_asm); (case z_N => k_asm); (case z_B => k_asm); (case z_X => k_asm); (case z_T => k_asm); (case z_hk => rfl); (case z_hd => first | exact roomD (by with_reducible assumption) rfl | omega); (case z_hu => first | exact roomU (by with_reducible assumption) rfl | omega))); (case z_hp => exact DrawnAt.of (by k_asm) (by k_mem) (by with_reducible assumption)); (case z_a1 => with_reducible assumption); (case z_a2 => with_reducible assumption); (case z_a3 => with_reducible assumption); (case z_a4 => with_reducible assumption); (case z_a5 => with_reducible assumption); (case z_a6 => with_reducible assumption)); intro v9z tl9z h9z tk9z F9z N9z D9z o9z; k_dflt (obtain ⟨a8z, vs8z, n8z, bs8z, e8z, e9z, ib8z, hb8z⟩ := o9z); subst e8z; subst e9z; dsimp only [List.cons_append, List.nil_append] at N9z; clear D9z)) | with_reducible ((k_here; (with_reducible show wpAny _ _ (call (Value.ref 193) _) _ _ _); k_dflt (refine' Spec.useE (law_stage_spec _ _ _ _ _ _ _ ?z_hb) ?z_B ?z_F ?z_X ?z_N ?z_T ?z_hk ?z_hd ?z_hu ?z_hp ?_; (((case z_F => k_asm); (case z_N => k_asm); (case z_B => k_asm); (case z_X => k_asm); (case z_T => k_asm); (case z_hk => rfl); (case z_hd => first | exact roomD (by with_reducible assumption) rfl | omega); (case z_hu => first | exact roomU (by with_reducible assumption) rfl | omega))); (case z_hp => exact BoardAt.ofN (by k_asm) (by k_mem) (by with_reducible assumption)); (case z_hb => with_reducible assumption)); (intro h9z tk9z F9z N9z)))) | ((with_reducible show wpAny _ _ (call (Value.builtin "len") _) _ _ _); first | with_reducible (((with_reducible show wpAny _ _ (call (Value.builtin _) [Value.ref _]) _ _ _); k_dflt (refine' lenN ?z_N ?z_m ?z_i ?z_b ?_; (case z_N => with_reducible assumption); (case z_m => k_mem); (case z_i => with_reducible assumption); (case z_b => with_reducible assumption))))) | ((with_reducible show wpAny _ _ (pyIter (Value.ref _)) _ _ _); first | with_reducible (((with_reducible show wpAny _ _ (pyIter (Value.ref _)) (fun it s₂ => LoopAtV _ _ _ _ _ _ _ _ _ it s₂) _ _); refine Stop.of ?_))) | ((with_reducible show wpAny _ _ (eval (PySem.Expr.Call _ _ _ _) _) _ _ _); first | with_reducible ((k_here; (with_reducible show wpAny _ _ (eval (PySem.Expr.Call (PySem.Expr.Name _ _) (PySem.Expr.Name _ _ :: _) [] _) _) _ _ _); k_dflt (rename Fr _ _ _ _ => F8z; refine' callV F8z ?z_X ?z_f ?z_k ?z_a rfl ?_; (case z_X => k_asm); (case z_f => walk_at "mine vv"); (case z_k => k_is); (case z_a => walk_at "mine av")))) | with_reducible (k_fold)) | ((with_reducible show wpAny _ _ (eval (PySem.Expr.Subscript _ _ _) _) _ _ _); first | with_reducible (k_fold)) | ((with_reducible show PySem.W.InvEndN _ _ _ _ _ _ _); first | with_reducible (refine Stop.of ?_)) | ((with_reducible show PySem.W.KswEnd _ _ _ _ _ _ _ _ _ _ _ _); first | with_reducible (refine Stop.of ?_)) | ((with_reducible show BodyQ _ _ _ _ _ _); first | with_reducible (refine Stop.of ?_)) | walk1 | dsimp only)
  refine Stop.go ?_
  rename Fr _ _ _ _ => F9
  rename News _ _ _ _ => N9
  refine' ksw_while (σ := LawSt) (fun c => [(c.al, listOf c.vl.toArray c.nl), (c.ab, listOf c.vb.toArray c.nb), (ad, listOf dv.toArray nd), (L + 1, c.oc)]) (fun c => [(Str.ofString "laid", .ref c.al)])
    (fun c => IntsAre c.vl c.lb ∧ IntsAre c.vb c.bs ∧ Bd f r c.bs ∧ LaidOk c.lb c.bs ∧ c.lb.length ≤ 64 ∧ c.oc.data = .cell (some (.ref c.ab)) ∧ NeAll c.ab [(ad, c.oc), (L + 1, c.oc)] ∧ NeAll c.al [(c.ab, c.oc), (ad, c.oc), (L + 1, c.oc)]) [Str.ofString "s"] (fun _ => True) (fun c => c.lb.length) ⟨ab, al, vb, vl, bs, lb, nb, nl, oc⟩ F9 N9 ⟨il, ib, hb, hok, hl64, hoc, lt2, lt3⟩ ?hk trivial ?turn
  case hk => kst_all
  case turn =>
    clear F9 N9 il ib hb hok hl64 hoc lt2 lt3
    rintro ⟨ab, al, vb, vl, bs, lb, nb, nl, oc⟩ u h tk' ⟨il, ib, hb, hok, hl64, hoc, lt2, lt3⟩ _ F2 N2
    dsimp only at il ib hb hok hl64 hoc lt2 lt3 F2 N2
    dsimp only [kstB] at F2
    simp only [AllLt, NeAll, and_true] at lt1 lt2 lt3
    have hf1 := hb.f1
    have hf2 := hb.f2
    have hr1 := hb.r1
    have hr2 := hb.r2
    have hbl : bs.length ≤ 64 := by obtain ⟨hc, hn1, hn2, hn3, hn4⟩ := fr_bounds hf1 hf2 hr1 hr2; rw [hb.len]; exact hn2
    repeat' (first | (k_unfold; (try dsimp only)) | ((with_reducible show wpAny _ _ (exec (PySem.Stmt.For (PySem.Expr.Name _ _) (PySem.Expr.Subscript _ _ _) _ _ _) _) _ _ _); first | with_reducible (walk_at "exec For Name Call cons nil")) | ((with_reducible show wpAny _ _ (exec (PySem.Stmt.While (PySem.Expr.Compare _ _ _ _) _ _ _) _) _ _ _); first | with_reducible (refine Stop.of ?_)) | ((with_reducible show wpAny _ _ (subscriptTail (PySem.Expr.Name _ _) (PySem.Expr.Slice _ _ _ _) (Value.ref _) (Value.ref _)) _ _ _); first | with_reducible ((k_here; (with_reducible show wpAny _ _ (subscriptTail _ (PySem.Expr.Slice _ none (some _) _) (Value.ref _) (Value.ref _)) _ _ _); k_dflt (refine' step_slice ?z_F ?z_N ?z_m ?z_i ?z_b ?z_p ?z_q ?z_r ?z_o ?_ ?z_s ?z_t; (case z_F => k_asm); (case z_N => k_asm); (case z_m => k_mem); (case z_i => with_reducible assumption); (case z_b => with_reducible assumption); (case z_p => kmk_part); (case z_q => kmk_part); (case z_r => kmk_part); (case z_o => decide); (case z_s => with_unfolding_all rfl); (case z_t => kmk_pure)); intro D'z vs'z h'z F'z N'z l1z hv'z; (try k_lt l1z)))) | ((with_reducible show wpAny _ _ (setItem (Value.ref _) (Value.int _ _) _) _ _ _); first | with_reducible ((k_here; (with_reducible show wpAny _ _ (setItem (Value.ref _) (Value.int _ _) (Value.int _ _)) _ _ _); k_dflt (refine' setN ?z_F ?z_N ?z_ne ?z_ib ?z_h0 ?z_h1 ?z_hb ?_; (case z_F => with_reducible assumption); (case z_N => with_reducible assumption); (case z_ne => with_reducible assumption); (case z_ib => with_reducible assumption); (case z_h0 => with_reducible assumption); (case z_h1 => with_reducible assumption); (case z_hb => with_reducible assumption)); intro h'z F'z N'z ib'z))) | ((with_reducible show wpAny _ _ (execs (_ :: _) _) _ _ _); first | with_reducible (k_fold) | with_reducible (first | k_fold | ((with_reducible refine wpAny_execs_cons ?_); try dsimp only))) | ((with_reducible show wpAny _ _ (call (Value.type "list") _) _ _ _); first | with_reducible ((k_here; (with_reducible show wpAny _ _ (call (Value.type _) [Value.ref _]) _ _ _); k_dflt (refine' copyN ?z_F ?z_N ?z_m ?z_i ?z_b ?_; (case z_F => k_asm); (case z_N => k_asm); (case z_m => k_mem); (case z_i => with_reducible assumption); (case z_b => with_reducible assumption)); intro D'z c'z h'z F'z N'z l1z; (try k_lt l1z); (try dsimp only)))) | ((with_reducible show wpAny _ _ (call (Value.ref _) _) _ _ _); first | with_reducible ((k_here; (with_reducible show wpAny _ _ (call (Value.ref 160) _) _ _ _); k_dflt (refine' Spec.use (law_ending_spec _ _ _ _ _ _ _ ?z_a1 ?z_a2 ?z_a3 ?z_a4 ?z_a5 ?z_a6) ?z_B ?z_F ?z_X ?z_N ?z_T ?z_hk ?z_hd ?z_hu ?z_hp ?_; (((case z_F => k_asm); (case z_N => k_asm); (case z_B => k_asm); (case z_X => k_asm); (case z_T => k_asm); (case z_hk => rfl); (case z_hd => first | exact roomD (by with_reducible assumption) rfl | omega); (case z_hu => first | exact roomU (by with_reducible assumption) rfl | omega))); (case z_hp => exact DrawnAt.of (by k_asm) (by k_mem) (by with_reducible assumption)); (case z_a1 => with_reducible assumption); (case z_a2 => with_reducible assumption); (case z_a3 => with_reducible assumption); (case z_a4 => with_reducible assumption); (case z_a5 => with_reducible assumption); (case z_a6 => with_reducible assumption)); intro v9z tl9z h9z tk9z F9z N9z D9z o9z; k_dflt (obtain ⟨a8z, vs8z, n8z, bs8z, e8z, e9z, ib8z, hb8z⟩ := o9z); subst e8z; subst e9z; dsimp only [List.cons_append, List.nil_append] at N9z; clear D9z)) | with_reducible ((k_here; (with_reducible show wpAny _ _ (call (Value.ref 193) _) _ _ _); k_dflt (refine' Spec.useE (law_stage_spec _ _ _ _ _ _ _ ?z_hb) ?z_B ?z_F ?z_X ?z_N ?z_T ?z_hk ?z_hd ?z_hu ?z_hp ?_; (((case z_F => k_asm); (case z_N => k_asm); (case z_B => k_asm); (case z_X => k_asm); (case z_T => k_asm); (case z_hk => rfl); (case z_hd => first | exact roomD (by with_reducible assumption) rfl | omega); (case z_hu => first | exact roomU (by with_reducible assumption) rfl | omega))); (case z_hp => exact BoardAt.ofN (by k_asm) (by k_mem) (by with_reducible assumption)); (case z_hb => with_reducible assumption)); (intro h9z tk9z F9z N9z)))) | ((with_reducible show wpAny _ _ (call (Value.builtin "len") _) _ _ _); first | with_reducible (((with_reducible show wpAny _ _ (call (Value.builtin _) [Value.ref _]) _ _ _); k_dflt (refine' lenN ?z_N ?z_m ?z_i ?z_b ?_; (case z_N => with_reducible assumption); (case z_m => k_mem); (case z_i => with_reducible assumption); (case z_b => with_reducible assumption))))) | ((with_reducible show wpAny _ _ (pyIter (Value.ref _)) _ _ _); first | with_reducible (((with_reducible show wpAny _ _ (pyIter (Value.ref _)) (fun it s₂ => LoopAtV _ _ _ _ _ _ _ _ _ it s₂) _ _); refine Stop.of ?_))) | ((with_reducible show wpAny _ _ (eval (PySem.Expr.Call _ _ _ _) _) _ _ _); first | with_reducible ((k_here; (with_reducible show wpAny _ _ (eval (PySem.Expr.Call (PySem.Expr.Name _ _) (PySem.Expr.Name _ _ :: _) [] _) _) _ _ _); k_dflt (rename Fr _ _ _ _ => F8z; refine' callV F8z ?z_X ?z_f ?z_k ?z_a rfl ?_; (case z_X => k_asm); (case z_f => walk_at "mine vv"); (case z_k => k_is); (case z_a => walk_at "mine av")))) | with_reducible (k_fold)) | ((with_reducible show wpAny _ _ (eval (PySem.Expr.Subscript _ _ _) _) _ _ _); first | with_reducible (k_fold)) | ((with_reducible show PySem.W.InvEndN _ _ _ _ _ _ _); first | with_reducible (refine Stop.of ?_)) | ((with_reducible show PySem.W.KswEnd _ _ _ _ _ _ _ _ _ _ _ _); first | with_reducible (refine Stop.of ?_)) | ((with_reducible show BodyQ _ _ _ _ _ _); first | with_reducible (refine Stop.of ?_)) | walk1 | dsimp only)
    · refine Stop.go ?_
      rename News _ _ _ _ => N9
      rename Fr _ _ _ _ => F9
      rename IntsAre _ (pickNums _ _ _ _) => hv9
      rename Obj.data _ = Data.cell (some (Value.ref _)) => hcell
      refine' laid_loop (lb := lb) (f := f) (r := r) rfl hv9 pick_mem ?hm ?hne F9 (News.mk2 N9 (.tail _ (.head _)) (News.mk2 N9 (.head _) (News.mk2 N9 (.tail _ (.tail _ (.head _))) (News.mk2 N9 (.tail _ (.tail _ (.tail _ (.tail _ (.head _))))) (News.mk2 N9 (.tail _ (.tail _ (.tail _ (.tail _ (.tail _ (.head _)))))) (News.nil)))))) ib hb hok ?turn ?done
      case hm => k_mem
      case hne =>
        intro p hp
        simp only [List.mem_cons, List.not_mem_nil, or_false] at hp
        rcases hp with rfl | rfl | rfl | rfl
        all_goals k_ne
      case turn =>
        clear F9 N9 ib hb hok hbl
        intro vb bs pre x t u h tk own hx ib hb hok hne F' N'
        obtain ⟨hx1, hx2, hx3, hx4⟩ := hok x hx
        have hbl : bs.length ≤ 64 := by obtain ⟨hc, hn1, hn2, hn3, hn4⟩ := fr_bounds hf1 hf2 hr1 hr2; rw [hb.len]; exact hn2
        repeat' (first | (k_unfold; (try dsimp only)) | ((with_reducible show wpAny _ _ (exec (PySem.Stmt.For (PySem.Expr.Name _ _) (PySem.Expr.Subscript _ _ _) _ _ _) _) _ _ _); first | with_reducible (walk_at "exec For Name Call cons nil")) | ((with_reducible show wpAny _ _ (exec (PySem.Stmt.While (PySem.Expr.Compare _ _ _ _) _ _ _) _) _ _ _); first | with_reducible (refine Stop.of ?_)) | ((with_reducible show wpAny _ _ (subscriptTail (PySem.Expr.Name _ _) (PySem.Expr.Slice _ _ _ _) (Value.ref _) (Value.ref _)) _ _ _); first | with_reducible ((k_here; (with_reducible show wpAny _ _ (subscriptTail _ (PySem.Expr.Slice _ none (some _) _) (Value.ref _) (Value.ref _)) _ _ _); k_dflt (refine' step_slice ?z_F ?z_N ?z_m ?z_i ?z_b ?z_p ?z_q ?z_r ?z_o ?_ ?z_s ?z_t; (case z_F => k_asm); (case z_N => k_asm); (case z_m => k_mem); (case z_i => with_reducible assumption); (case z_b => with_reducible assumption); (case z_p => kmk_part); (case z_q => kmk_part); (case z_r => kmk_part); (case z_o => decide); (case z_s => with_unfolding_all rfl); (case z_t => kmk_pure)); intro D'z vs'z h'z F'z N'z l1z hv'z; (try k_lt l1z)))) | ((with_reducible show wpAny _ _ (setItem (Value.ref _) (Value.int _ _) _) _ _ _); first | with_reducible ((k_here; (with_reducible show wpAny _ _ (setItem (Value.ref _) (Value.int _ _) (Value.int _ _)) _ _ _); k_dflt (refine' setN ?z_F ?z_N ?z_ne ?z_ib ?z_h0 ?z_h1 ?z_hb ?_; (case z_F => with_reducible assumption); (case z_N => with_reducible assumption); (case z_ne => with_reducible assumption); (case z_ib => with_reducible assumption); (case z_h0 => with_reducible assumption); (case z_h1 => with_reducible assumption); (case z_hb => with_reducible assumption)); intro h'z F'z N'z ib'z))) | ((with_reducible show wpAny _ _ (execs (_ :: _) _) _ _ _); first | with_reducible (k_fold) | with_reducible (first | k_fold | ((with_reducible refine wpAny_execs_cons ?_); try dsimp only))) | ((with_reducible show wpAny _ _ (call (Value.type "list") _) _ _ _); first | with_reducible ((k_here; (with_reducible show wpAny _ _ (call (Value.type _) [Value.ref _]) _ _ _); k_dflt (refine' copyN ?z_F ?z_N ?z_m ?z_i ?z_b ?_; (case z_F => k_asm); (case z_N => k_asm); (case z_m => k_mem); (case z_i => with_reducible assumption); (case z_b => with_reducible assumption)); intro D'z c'z h'z F'z N'z l1z; (try k_lt l1z); (try dsimp only)))) | ((with_reducible show wpAny _ _ (call (Value.ref _) _) _ _ _); first | with_reducible ((k_here; (with_reducible show wpAny _ _ (call (Value.ref 160) _) _ _ _); k_dflt (refine' Spec.use (law_ending_spec _ _ _ _ _ _ _ ?z_a1 ?z_a2 ?z_a3 ?z_a4 ?z_a5 ?z_a6) ?z_B ?z_F ?z_X ?z_N ?z_T ?z_hk ?z_hd ?z_hu ?z_hp ?_; (((case z_F => k_asm); (case z_N => k_asm); (case z_B => k_asm); (case z_X => k_asm); (case z_T => k_asm); (case z_hk => rfl); (case z_hd => first | exact roomD (by with_reducible assumption) rfl | omega); (case z_hu => first | exact roomU (by with_reducible assumption) rfl | omega))); (case z_hp => exact DrawnAt.of (by k_asm) (by k_mem) (by with_reducible assumption)); (case z_a1 => with_reducible assumption); (case z_a2 => with_reducible assumption); (case z_a3 => with_reducible assumption); (case z_a4 => with_reducible assumption); (case z_a5 => with_reducible assumption); (case z_a6 => with_reducible assumption)); intro v9z tl9z h9z tk9z F9z N9z D9z o9z; k_dflt (obtain ⟨a8z, vs8z, n8z, bs8z, e8z, e9z, ib8z, hb8z⟩ := o9z); subst e8z; subst e9z; dsimp only [List.cons_append, List.nil_append] at N9z; clear D9z)) | with_reducible ((k_here; (with_reducible show wpAny _ _ (call (Value.ref 193) _) _ _ _); k_dflt (refine' Spec.useE (law_stage_spec _ _ _ _ _ _ _ ?z_hb) ?z_B ?z_F ?z_X ?z_N ?z_T ?z_hk ?z_hd ?z_hu ?z_hp ?_; (((case z_F => k_asm); (case z_N => k_asm); (case z_B => k_asm); (case z_X => k_asm); (case z_T => k_asm); (case z_hk => rfl); (case z_hd => first | exact roomD (by with_reducible assumption) rfl | omega); (case z_hu => first | exact roomU (by with_reducible assumption) rfl | omega))); (case z_hp => exact BoardAt.ofN (by k_asm) (by k_mem) (by with_reducible assumption)); (case z_hb => with_reducible assumption)); (intro h9z tk9z F9z N9z)))) | ((with_reducible show wpAny _ _ (call (Value.builtin "len") _) _ _ _); first | with_reducible (((with_reducible show wpAny _ _ (call (Value.builtin _) [Value.ref _]) _ _ _); k_dflt (refine' lenN ?z_N ?z_m ?z_i ?z_b ?_; (case z_N => with_reducible assumption); (case z_m => k_mem); (case z_i => with_reducible assumption); (case z_b => with_reducible assumption))))) | ((with_reducible show wpAny _ _ (pyIter (Value.ref _)) _ _ _); first | with_reducible (((with_reducible show wpAny _ _ (pyIter (Value.ref _)) (fun it s₂ => LoopAtV _ _ _ _ _ _ _ _ _ it s₂) _ _); refine Stop.of ?_))) | ((with_reducible show wpAny _ _ (eval (PySem.Expr.Call _ _ _ _) _) _ _ _); first | with_reducible ((k_here; (with_reducible show wpAny _ _ (eval (PySem.Expr.Call (PySem.Expr.Name _ _) (PySem.Expr.Name _ _ :: _) [] _) _) _ _ _); k_dflt (rename Fr _ _ _ _ => F8z; refine' callV F8z ?z_X ?z_f ?z_k ?z_a rfl ?_; (case z_X => k_asm); (case z_f => walk_at "mine vv"); (case z_k => k_is); (case z_a => walk_at "mine av")))) | with_reducible (k_fold)) | ((with_reducible show wpAny _ _ (eval (PySem.Expr.Subscript _ _ _) _) _ _ _); first | with_reducible (k_fold)) | ((with_reducible show PySem.W.InvEndN _ _ _ _ _ _ _); first | with_reducible (refine Stop.of ?_)) | ((with_reducible show PySem.W.KswEnd _ _ _ _ _ _ _ _ _ _ _ _); first | with_reducible (refine Stop.of ?_)) | ((with_reducible show BodyQ _ _ _ _ _ _); first | with_reducible (refine Stop.of ?_)) | walk1 | dsimp only)
        refine Stop.go ?_
        rename Fr _ _ _ _ => F9
        rename News _ _ _ _ => N9
        exact laid_loop_end F9 N9 (by with_reducible assumption) (hb.store (i := x.toNat) (by omega) hx3 hx4 (.inl rfl)) (hok.store (i := x.toNat) (by omega)) (by kst_same)
      case done =>
        clear F9 N9 ib hb hok hbl
        intro vb bs u h tk ib hb hok F' N'
        dsimp only
        repeat' (first | (k_unfold; (try dsimp only)) | ((with_reducible show wpAny _ _ (exec (PySem.Stmt.For (PySem.Expr.Name _ _) (PySem.Expr.Subscript _ _ _) _ _ _) _) _ _ _); first | with_reducible (walk_at "exec For Name Call cons nil")) | ((with_reducible show wpAny _ _ (exec (PySem.Stmt.While (PySem.Expr.Compare _ _ _ _) _ _ _) _) _ _ _); first | with_reducible (refine Stop.of ?_)) | ((with_reducible show wpAny _ _ (subscriptTail (PySem.Expr.Name _ _) (PySem.Expr.Slice _ _ _ _) (Value.ref _) (Value.ref _)) _ _ _); first | with_reducible ((k_here; (with_reducible show wpAny _ _ (subscriptTail _ (PySem.Expr.Slice _ none (some _) _) (Value.ref _) (Value.ref _)) _ _ _); k_dflt (refine' step_slice ?z_F ?z_N ?z_m ?z_i ?z_b ?z_p ?z_q ?z_r ?z_o ?_ ?z_s ?z_t; (case z_F => k_asm); (case z_N => k_asm); (case z_m => k_mem); (case z_i => with_reducible assumption); (case z_b => with_reducible assumption); (case z_p => kmk_part); (case z_q => kmk_part); (case z_r => kmk_part); (case z_o => decide); (case z_s => with_unfolding_all rfl); (case z_t => kmk_pure)); intro D'z vs'z h'z F'z N'z l1z hv'z; (try k_lt l1z)))) | ((with_reducible show wpAny _ _ (setItem (Value.ref _) (Value.int _ _) _) _ _ _); first | with_reducible ((k_here; (with_reducible show wpAny _ _ (setItem (Value.ref _) (Value.int _ _) (Value.int _ _)) _ _ _); k_dflt (refine' setN ?z_F ?z_N ?z_ne ?z_ib ?z_h0 ?z_h1 ?z_hb ?_; (case z_F => with_reducible assumption); (case z_N => with_reducible assumption); (case z_ne => with_reducible assumption); (case z_ib => with_reducible assumption); (case z_h0 => with_reducible assumption); (case z_h1 => with_reducible assumption); (case z_hb => with_reducible assumption)); intro h'z F'z N'z ib'z))) | ((with_reducible show wpAny _ _ (execs (_ :: _) _) _ _ _); first | with_reducible (k_fold) | with_reducible (first | k_fold | ((with_reducible refine wpAny_execs_cons ?_); try dsimp only))) | ((with_reducible show wpAny _ _ (call (Value.type "list") _) _ _ _); first | with_reducible ((k_here; (with_reducible show wpAny _ _ (call (Value.type _) [Value.ref _]) _ _ _); k_dflt (refine' copyN ?z_F ?z_N ?z_m ?z_i ?z_b ?_; (case z_F => k_asm); (case z_N => k_asm); (case z_m => k_mem); (case z_i => with_reducible assumption); (case z_b => with_reducible assumption)); intro D'z c'z h'z F'z N'z l1z; (try k_lt l1z); (try dsimp only)))) | ((with_reducible show wpAny _ _ (call (Value.ref _) _) _ _ _); first | with_reducible ((k_here; (with_reducible show wpAny _ _ (call (Value.ref 160) _) _ _ _); k_dflt (refine' Spec.use (law_ending_spec _ _ _ _ _ _ _ ?z_a1 ?z_a2 ?z_a3 ?z_a4 ?z_a5 ?z_a6) ?z_B ?z_F ?z_X ?z_N ?z_T ?z_hk ?z_hd ?z_hu ?z_hp ?_; (((case z_F => k_asm); (case z_N => k_asm); (case z_B => k_asm); (case z_X => k_asm); (case z_T => k_asm); (case z_hk => rfl); (case z_hd => first | exact roomD (by with_reducible assumption) rfl | omega); (case z_hu => first | exact roomU (by with_reducible assumption) rfl | omega))); (case z_hp => exact DrawnAt.of (by k_asm) (by k_mem) (by with_reducible assumption)); (case z_a1 => with_reducible assumption); (case z_a2 => with_reducible assumption); (case z_a3 => with_reducible assumption); (case z_a4 => with_reducible assumption); (case z_a5 => with_reducible assumption); (case z_a6 => with_reducible assumption)); intro v9z tl9z h9z tk9z F9z N9z D9z o9z; k_dflt (obtain ⟨a8z, vs8z, n8z, bs8z, e8z, e9z, ib8z, hb8z⟩ := o9z); subst e8z; subst e9z; dsimp only [List.cons_append, List.nil_append] at N9z; clear D9z)) | with_reducible ((k_here; (with_reducible show wpAny _ _ (call (Value.ref 193) _) _ _ _); k_dflt (refine' Spec.useE (law_stage_spec _ _ _ _ _ _ _ ?z_hb) ?z_B ?z_F ?z_X ?z_N ?z_T ?z_hk ?z_hd ?z_hu ?z_hp ?_; (((case z_F => k_asm); (case z_N => k_asm); (case z_B => k_asm); (case z_X => k_asm); (case z_T => k_asm); (case z_hk => rfl); (case z_hd => first | exact roomD (by with_reducible assumption) rfl | omega); (case z_hu => first | exact roomU (by with_reducible assumption) rfl | omega))); (case z_hp => exact BoardAt.ofN (by k_asm) (by k_mem) (by with_reducible assumption)); (case z_hb => with_reducible assumption)); (intro h9z tk9z F9z N9z)))) | ((with_reducible show wpAny _ _ (call (Value.builtin "len") _) _ _ _); first | with_reducible (((with_reducible show wpAny _ _ (call (Value.builtin _) [Value.ref _]) _ _ _); k_dflt (refine' lenN ?z_N ?z_m ?z_i ?z_b ?_; (case z_N => with_reducible assumption); (case z_m => k_mem); (case z_i => with_reducible assumption); (case z_b => with_reducible assumption))))) | ((with_reducible show wpAny _ _ (pyIter (Value.ref _)) _ _ _); first | with_reducible (((with_reducible show wpAny _ _ (pyIter (Value.ref _)) (fun it s₂ => LoopAtV _ _ _ _ _ _ _ _ _ it s₂) _ _); refine Stop.of ?_))) | ((with_reducible show wpAny _ _ (eval (PySem.Expr.Call _ _ _ _) _) _ _ _); first | with_reducible ((k_here; (with_reducible show wpAny _ _ (eval (PySem.Expr.Call (PySem.Expr.Name _ _) (PySem.Expr.Name _ _ :: _) [] _) _) _ _ _); k_dflt (rename Fr _ _ _ _ => F8z; refine' callV F8z ?z_X ?z_f ?z_k ?z_a rfl ?_; (case z_X => k_asm); (case z_f => walk_at "mine vv"); (case z_k => k_is); (case z_a => walk_at "mine av")))) | with_reducible (k_fold)) | ((with_reducible show wpAny _ _ (eval (PySem.Expr.Subscript _ _ _) _) _ _ _); first | with_reducible (k_fold)) | ((with_reducible show PySem.W.InvEndN _ _ _ _ _ _ _); first | with_reducible (refine Stop.of ?_)) | ((with_reducible show PySem.W.KswEnd _ _ _ _ _ _ _ _ _ _ _ _); first | with_reducible (refine Stop.of ?_)) | ((with_reducible show BodyQ _ _ _ _ _ _); first | with_reducible (refine Stop.of ?_)) | walk1 | dsimp only)
        refine Stop.go ?_
        rename Fr _ _ _ _ => F9
        rename News _ _ _ _ => N9
        rename IntsAre _ (pickNums _ _ _ _) => hv8
        have hpos : 0 < lb.length := by omega
        have hlt9 := pick_len hpos
        refine' ksw_end (⟨_, _, _, _, _, _, _, _, _⟩ : LawSt) F9 (news' := _) (News.mk2 N9 (.head _) (News.mk2 N9 (.tail _ (.head _)) (News.mk2 N9 (.tail _ (.tail _ (.tail _ (.tail _ (.head _))))) (News.mk2 N9 (.tail _ (.tail _ (.tail _ (.tail _ (.tail _ (.head _)))))) (News.nil))))) (fun p hp => hp) ⟨hv8, ib, hb, hok.sub pick_mem, ?q1, hcell, ?q2, ?q3⟩ ?hk (by ksw_same) trivial ?q4
        case q1 =>
          show (pickNums lb (some 1) none (some 2)).length ≤ 64
          omega
        case q2 => (dsimp only; simp only [NeAll, and_true]; omega)
        case q3 => (dsimp only; simp only [NeAll, and_true]; omega)
        case hk => kst_all
        case q4 => exact hlt9
    · refine Stop.go ?_
      rename Fr _ _ _ _ => F9
      exact BodyQ.mk [] F9 News.nil (fun _ h => nomatch h) rfl



end
-- part F2
example : True := by w_top off; trivial
section
noncomputable def laidG (bs : List Int) (l : List Int) (k : Int) : List Int := l ++ (if (([1, 2, 3, 4, 5] : List Int).any fun x => x == (bs.getD k.toNat 0).fmod 8) = true then [k] else [])
theorem laidG_grows (bs : List Int) : KPfGrows (laidG bs) := fun l k => by
  unfold laidG
  split <;> simp
theorem laidG_yes {bs l : List Int} {k : Int} (h : (([1, 2, 3, 4, 5] : List Int).any fun x => x == (bs.getD k.toNat 0).fmod 8) = true) : laidG bs l k = l ++ [k] := by
  unfold laidG
  rw [if_pos h]
theorem laidG_no {bs l : List Int} {k : Int} (h : (([1, 2, 3, 4, 5] : List Int).any fun x => x == (bs.getD k.toNat 0).fmod 8) = false) : laidG bs l k = l := by
  unfold laidG
  rw [if_neg (by rw [h]; decide), List.append_nil]
theorem laidG_ok {bs : List Int} : ∀ (ks l : List Int), LaidOk l bs → (∀ k ∈ ks, 0 ≤ k ∧ k < (bs.length : Int)) → LaidOk (ks.foldl (laidG bs) l) bs
  | [], _, h, _ => h
  | k :: ks, l, h, hk => by
    rw [List.foldl_cons]
    refine laidG_ok ks _ ?_ fun z hz => hk z (.tail _ hz)
    intro x hx
    unfold laidG at hx
    rcases List.mem_append.mp hx with hx | hx
    · exact h x hx
    · split at hx
      · rename_i ht
        rw [List.mem_singleton.mp hx]
        obtain ⟨a, b⟩ := hk k (.head _)
        refine ⟨a, b, ?_, ?_⟩
        · intro e; rw [e] at ht; revert ht; decide
        · intro e; rw [e] at ht; revert ht; decide
      · cases hx
theorem Bd.le64 {f r : Nat} {bs : List Int} (hb : Bd f r bs) : bs.length ≤ 64 := by
  obtain ⟨hc, hn1, hn2, hn3, hn4⟩ := fr_bounds hb.f1 hb.f2 hb.r1 hb.r2
  rw [hb.len]
  exact hn2
set_option maxHeartbeats 1500000 in
theorem law_B (w : World) : CutAt w 198 4 fun rest qual scope _ => ∀ {mean : ExcName → Option Value} {mg mb : PySem.Str → Option Value} {dp un : Nat} {gd : Option (List Code)} {outer : List Env} {A₀ : Around} {base g h : Heap} {L : Addr} {tk : Nat} {s : Shared} {fa : Addr} {cd : Value} {sa ad : Addr} {f r : Nat} {t1 t2 : Tok} {dv : List Value} {ns : List Int} {nd : Nat} {oc : Obj} {ov : Option Value}, Below A₀ base outer g → Fr g L h (fun y => if y = Str.ofString "ranks" then some (Value.int (r : Int) t2) else if y = Str.ofString "files" then some (Value.int (f : Int) t1) else if y = Str.ofString "drawn" then some (Value.ref ad) else bindL (envOfC qual scope L fa cd).kindOf [(Str.ofString "script", .ref sa)] (fun _ => none) y) → (hd.heap_1 w.params).In g → Top topView (looseW topView [PySem.Str.ofString "PIECE_VALUES"]) mean mg mb g → News g L h [(ad, listOf dv.toArray nd), (L + 1, oc)] → oc.data = .cell ov → IntsAre dv ns → 2 ≤ f → f ≤ 8 → 3 ≤ r → r ≤ 8 → 2 ≤ ns.length → ns.length ≤ 63 → AllLt ad [(L + 1, oc)] → dp + 50 < recursionLimit → un + 8 * 50 < cLine → wpAny (model PySem.Challenge.rw_nt0419_01.row.prog w) (ktrTop (dp + 1) (un + 3) gd qual scope L fa cd (cellsFrom (L + 1) scope.names []) outer) (execs rest (envOfC qual scope L fa cd)) (BodyQ (fun v _ => v = .bool true) g L s) (fun _ _ => False) { s with heap := h, toks := tk } := by
  refine' CutAt.of ?ho ?_
  case ho => k_is
  dsimp only [List.drop]
  intro mean mg mb dp un gd outer A₀ base g h L tk s fa cd sa ad f r t1 t2 dv ns nd oc ov B F X T N hoc i1 hf1 hf2 hr1 hr2 hl1 hl2 lt1 hdd huu
  refine letAE ?_
  intro A9 e9
  have sm9 := stMark s
  simp only [AllLt, and_true] at lt1
  repeat' (first | (k_unfold; (try dsimp only)) | ((with_reducible show wpAny _ _ (subscriptTail (PySem.Expr.Name _ _) (PySem.Expr.Name _ _) (Value.ref _) (Value.int _ _)) _ _ _); first | with_reducible ((k_here; (with_reducible show wpAny _ _ (subscriptTail _ _ (Value.ref _) (Value.int _ _)) _ _ _); k_dflt (refine' itemN ?z_N ?z_m ?z_i ?z_h0 ?z_h1 ?z_hk ?_; (case z_N => k_asm); (case z_m => k_mem); (case z_i => with_reducible assumption); (case z_h0 => with_reducible assumption); (case z_h1 => with_reducible assumption); (case z_hk => omega)); intro t9z))) | ((with_reducible show wpAny _ _ (exec (PySem.Stmt.Assign _ (PySem.Expr.ListComp _ _ _ _) _) _) _ _ _); first | with_reducible ((k_here; (with_reducible show wpAny _ _ (exec (PySem.Stmt.Assign [PySem.Expr.Name _ _] (PySem.Expr.ListComp _ [⟨PySem.Expr.Name _ _, _, [_], 0⟩] _ _) _) _) _ _ _); k_dflt (refine LCt.Assign_ListComp_T (F₀ := by k_asm) (by rfl) (by with_unfolding_all rfl) (by with_unfolding_all rfl) (by decide) (by rfl) (by decide) (by rfl) (by rfl) (by rfl) ?_)))) | ((with_reducible show wpAny _ _ (call (Value.ref _) _) _ _ _); first | with_reducible ((k_here; (with_reducible show wpAny _ _ (call (Value.ref 155) _) _ _ _); k_dflt (refine' Spec.use (law_lay_spec _ _ _ _ _ _ _ ?z_a1 ?z_a2 ?z_a3 ?z_a4 ?z_a5 ?z_a6) ?z_B ?z_F ?z_X ?z_N ?z_T ?z_hk ?z_hd ?z_hu ?z_hp ?_; (((case z_F => k_asm); (case z_N => k_asm); (case z_B => k_asm); (case z_X => k_asm); (case z_T => k_asm); (case z_hk => rfl); (case z_hd => first | exact roomD (by with_reducible assumption) rfl | omega); (case z_hu => first | exact roomU (by with_reducible assumption) rfl | omega))); (case z_hp => exact DrawnAt.of (by k_asm) (by k_mem) (by with_reducible assumption)); (case z_a1 => with_reducible assumption); (case z_a2 => with_reducible assumption); (case z_a3 => with_reducible assumption); (case z_a4 => with_reducible assumption); (case z_a5 => omega); (case z_a6 => omega)); intro v9z tl9z h9z tk9z F9z N9z D9z o9z; k_dflt (obtain ⟨a8z, vs8z, n8z, bs8z, e8z, e9z, ib8z, hb8z⟩ := o9z); subst e8z; subst e9z; dsimp only [List.cons_append, List.nil_append] at N9z; have hl8' := Bd.len hb8z; have hl64' := Bd.le64 hb8z; replace D9z := neAll_of D9z; simp only [NeAll, and_true] at D9z))) | ((with_reducible show wpAny _ _ (execs (_ :: _) _) _ _ _); first | with_reducible (((with_reducible show wpAny _ _ (execs (PySem.Stmt.While _ _ _ _ :: _) _) _ _ _); refine Stop.of ?_)) | with_reducible (first | k_fold | ((with_reducible refine wpAny_execs_cons ?_); try dsimp only))) | ((with_reducible show wpAny _ _ (call (Value.builtin "len") _) _ _ _); first | with_reducible (((with_reducible show wpAny _ _ (call (Value.builtin _) [Value.ref _]) _ _ _); k_dflt (refine' lenN ?z_N ?z_m ?z_i ?z_b ?_; (case z_N => with_reducible assumption); (case z_m => k_mem); (case z_i => with_reducible assumption); (case z_b => with_reducible assumption))))) | ((with_reducible show wpAny _ _ (eval (PySem.Expr.Call _ _ _ _) _) _ _ _); first | with_reducible ((k_here; (with_reducible show wpAny _ _ (eval (PySem.Expr.Call (PySem.Expr.Name _ _) (PySem.Expr.Name _ _ :: _) [] _) _) _ _ _); k_dflt (rename Fr _ _ _ _ => F8z; refine' callV F8z ?z_X ?z_f ?z_k ?z_a rfl ?_; (case z_X => k_asm); (case z_f => walk_at "mine vv"); (case z_k => k_is); (case z_a => walk_at "mine av")))) | with_reducible (k_fold)) | ((with_reducible show wpAny _ _ (eval (PySem.Expr.Subscript _ _ _) _) _ _ _); first | with_reducible (k_fold)) | ((with_reducible show wpAny _ _ (eval (PySem.Expr.BinOp _ _ _ _) _) _ _ _); first | with_reducible (k_fold)) | ((with_reducible show PyProof.Rows.LCg.CompEnd _ _ _ _ _ _ _ _ _ _ _ _ _ _); first | with_reducible ((k_here; k_dflt (refine' compend0 ?z_F ?z_N ?z_off ?z_S ?_; (case z_F => with_reducible assumption); (case z_N => first | (with_reducible assumption) | exact News.tl (by with_reducible assumption)); (case z_off => with_reducible assumption); (case z_S => first | (with_reducible exact trivial) | exact .inl (by with_reducible assumption) | exact .inr ⟨_, by k_mem, rfl, _, rfl⟩))))) | ((with_reducible show PySem.W.KCiNo _ _ _ _); first | with_reducible (refine Stop.of ?_)) | ((with_reducible show PySem.W.KCiEl _ _ _ _ _); first | with_reducible (refine Stop.of ?_)) | walk1 | dsimp only)
  refine Stop.go ?_
  rename IsRange _ _ _ _ _ _ _ _ => R9
  rename Bd _ _ _ => hb
  rename IntsAre _ _ => ib
  rename List Int => bs
  rename bs.length ≤ 64 => hl64
  rename bs.length = f * r => hlb
  rename Fr _ _ _ _ => F9
  rename News _ _ _ _ => N9
  refine' LCt.CompSrcT.range (n := bs.length) rfl F9 N9 R9 (small_one (by omega) (by omega) (by omega) (by omega)) (by rw [rangeSize_nat]; omega) ?sz ?_
  case sz => rw [PySem.sizeLine_eq]; omega
  clear R9
  intro g6
  refine' kci_range (laidG bs) ?turn ?fin (laidG_grows bs)
  case turn =>
    intro k t I oI C oC D m₂ ys l h tk E' hk1 hk2 hI hC hx F' N' off ne mk
    have hk3 : k < (bs.length : Int) := by omega
    clear F9 N9
    try dsimp only
    repeat' (first | (k_unfold; (try dsimp only)) | ((with_reducible show wpAny _ _ (subscriptTail (PySem.Expr.Name _ _) (PySem.Expr.Name _ _) (Value.ref _) (Value.int _ _)) _ _ _); first | with_reducible ((k_here; (with_reducible show wpAny _ _ (subscriptTail _ _ (Value.ref _) (Value.int _ _)) _ _ _); k_dflt (refine' itemN ?z_N ?z_m ?z_i ?z_h0 ?z_h1 ?z_hk ?_; (case z_N => k_asm); (case z_m => k_mem); (case z_i => with_reducible assumption); (case z_h0 => with_reducible assumption); (case z_h1 => with_reducible assumption); (case z_hk => omega)); intro t9z))) | ((with_reducible show wpAny _ _ (exec (PySem.Stmt.Assign _ (PySem.Expr.ListComp _ _ _ _) _) _) _ _ _); first | with_reducible ((k_here; (with_reducible show wpAny _ _ (exec (PySem.Stmt.Assign [PySem.Expr.Name _ _] (PySem.Expr.ListComp _ [⟨PySem.Expr.Name _ _, _, [_], 0⟩] _ _) _) _) _ _ _); k_dflt (refine LCt.Assign_ListComp_T (F₀ := by k_asm) (by rfl) (by with_unfolding_all rfl) (by with_unfolding_all rfl) (by decide) (by rfl) (by decide) (by rfl) (by rfl) (by rfl) ?_)))) | ((with_reducible show wpAny _ _ (call (Value.ref _) _) _ _ _); first | with_reducible ((k_here; (with_reducible show wpAny _ _ (call (Value.ref 155) _) _ _ _); k_dflt (refine' Spec.use (law_lay_spec _ _ _ _ _ _ _ ?z_a1 ?z_a2 ?z_a3 ?z_a4 ?z_a5 ?z_a6) ?z_B ?z_F ?z_X ?z_N ?z_T ?z_hk ?z_hd ?z_hu ?z_hp ?_; (((case z_F => k_asm); (case z_N => k_asm); (case z_B => k_asm); (case z_X => k_asm); (case z_T => k_asm); (case z_hk => rfl); (case z_hd => first | exact roomD (by with_reducible assumption) rfl | omega); (case z_hu => first | exact roomU (by with_reducible assumption) rfl | omega))); (case z_hp => exact DrawnAt.of (by k_asm) (by k_mem) (by with_reducible assumption)); (case z_a1 => with_reducible assumption); (case z_a2 => with_reducible assumption); (case z_a3 => with_reducible assumption); (case z_a4 => with_reducible assumption); (case z_a5 => omega); (case z_a6 => omega)); intro v9z tl9z h9z tk9z F9z N9z D9z o9z; k_dflt (obtain ⟨a8z, vs8z, n8z, bs8z, e8z, e9z, ib8z, hb8z⟩ := o9z); subst e8z; subst e9z; dsimp only [List.cons_append, List.nil_append] at N9z; have hl8' := Bd.len hb8z; have hl64' := Bd.le64 hb8z; replace D9z := neAll_of D9z; simp only [NeAll, and_true] at D9z))) | ((with_reducible show wpAny _ _ (execs (_ :: _) _) _ _ _); first | with_reducible (((with_reducible show wpAny _ _ (execs (PySem.Stmt.While _ _ _ _ :: _) _) _ _ _); refine Stop.of ?_)) | with_reducible (first | k_fold | ((with_reducible refine wpAny_execs_cons ?_); try dsimp only))) | ((with_reducible show wpAny _ _ (call (Value.builtin "len") _) _ _ _); first | with_reducible (((with_reducible show wpAny _ _ (call (Value.builtin _) [Value.ref _]) _ _ _); k_dflt (refine' lenN ?z_N ?z_m ?z_i ?z_b ?_; (case z_N => with_reducible assumption); (case z_m => k_mem); (case z_i => with_reducible assumption); (case z_b => with_reducible assumption))))) | ((with_reducible show wpAny _ _ (eval (PySem.Expr.Call _ _ _ _) _) _ _ _); first | with_reducible ((k_here; (with_reducible show wpAny _ _ (eval (PySem.Expr.Call (PySem.Expr.Name _ _) (PySem.Expr.Name _ _ :: _) [] _) _) _ _ _); k_dflt (rename Fr _ _ _ _ => F8z; refine' callV F8z ?z_X ?z_f ?z_k ?z_a rfl ?_; (case z_X => k_asm); (case z_f => walk_at "mine vv"); (case z_k => k_is); (case z_a => walk_at "mine av")))) | with_reducible (k_fold)) | ((with_reducible show wpAny _ _ (eval (PySem.Expr.Subscript _ _ _) _) _ _ _); first | with_reducible (k_fold)) | ((with_reducible show wpAny _ _ (eval (PySem.Expr.BinOp _ _ _ _) _) _ _ _); first | with_reducible (k_fold)) | ((with_reducible show PyProof.Rows.LCg.CompEnd _ _ _ _ _ _ _ _ _ _ _ _ _ _); first | with_reducible ((k_here; k_dflt (refine' compend0 ?z_F ?z_N ?z_off ?z_S ?_; (case z_F => with_reducible assumption); (case z_N => first | (with_reducible assumption) | exact News.tl (by with_reducible assumption)); (case z_off => with_reducible assumption); (case z_S => first | (with_reducible exact trivial) | exact .inl (by with_reducible assumption) | exact .inr ⟨_, by k_mem, rfl, _, rfl⟩))))) | ((with_reducible show PySem.W.KCiNo _ _ _ _); first | with_reducible (refine Stop.of ?_)) | ((with_reducible show PySem.W.KCiEl _ _ _ _ _); first | with_reducible (refine Stop.of ?_)) | walk1 | dsimp only)
    · refine Stop.go ?_
      exact kci_el (laidG_yes (by assumption)) rfl rfl
    · refine Stop.go ?_
      exact kci_no (laidG_no (by assumption)) rfl
  case fin =>
    unfold KPfDone
    intro ys hi hlen D h tk F' N' o1
    clear F9 N9
    try dsimp only
    repeat' (first | (k_unfold; (try dsimp only)) | ((with_reducible show wpAny _ _ (subscriptTail (PySem.Expr.Name _ _) (PySem.Expr.Name _ _) (Value.ref _) (Value.int _ _)) _ _ _); first | with_reducible ((k_here; (with_reducible show wpAny _ _ (subscriptTail _ _ (Value.ref _) (Value.int _ _)) _ _ _); k_dflt (refine' itemN ?z_N ?z_m ?z_i ?z_h0 ?z_h1 ?z_hk ?_; (case z_N => k_asm); (case z_m => k_mem); (case z_i => with_reducible assumption); (case z_h0 => with_reducible assumption); (case z_h1 => with_reducible assumption); (case z_hk => omega)); intro t9z))) | ((with_reducible show wpAny _ _ (exec (PySem.Stmt.Assign _ (PySem.Expr.ListComp _ _ _ _) _) _) _ _ _); first | with_reducible ((k_here; (with_reducible show wpAny _ _ (exec (PySem.Stmt.Assign [PySem.Expr.Name _ _] (PySem.Expr.ListComp _ [⟨PySem.Expr.Name _ _, _, [_], 0⟩] _ _) _) _) _ _ _); k_dflt (refine LCt.Assign_ListComp_T (F₀ := by k_asm) (by rfl) (by with_unfolding_all rfl) (by with_unfolding_all rfl) (by decide) (by rfl) (by decide) (by rfl) (by rfl) (by rfl) ?_)))) | ((with_reducible show wpAny _ _ (call (Value.ref _) _) _ _ _); first | with_reducible ((k_here; (with_reducible show wpAny _ _ (call (Value.ref 155) _) _ _ _); k_dflt (refine' Spec.use (law_lay_spec _ _ _ _ _ _ _ ?z_a1 ?z_a2 ?z_a3 ?z_a4 ?z_a5 ?z_a6) ?z_B ?z_F ?z_X ?z_N ?z_T ?z_hk ?z_hd ?z_hu ?z_hp ?_; (((case z_F => k_asm); (case z_N => k_asm); (case z_B => k_asm); (case z_X => k_asm); (case z_T => k_asm); (case z_hk => rfl); (case z_hd => first | exact roomD (by with_reducible assumption) rfl | omega); (case z_hu => first | exact roomU (by with_reducible assumption) rfl | omega))); (case z_hp => exact DrawnAt.of (by k_asm) (by k_mem) (by with_reducible assumption)); (case z_a1 => with_reducible assumption); (case z_a2 => with_reducible assumption); (case z_a3 => with_reducible assumption); (case z_a4 => with_reducible assumption); (case z_a5 => omega); (case z_a6 => omega)); intro v9z tl9z h9z tk9z F9z N9z D9z o9z; k_dflt (obtain ⟨a8z, vs8z, n8z, bs8z, e8z, e9z, ib8z, hb8z⟩ := o9z); subst e8z; subst e9z; dsimp only [List.cons_append, List.nil_append] at N9z; have hl8' := Bd.len hb8z; have hl64' := Bd.le64 hb8z; replace D9z := neAll_of D9z; simp only [NeAll, and_true] at D9z))) | ((with_reducible show wpAny _ _ (execs (_ :: _) _) _ _ _); first | with_reducible (((with_reducible show wpAny _ _ (execs (PySem.Stmt.While _ _ _ _ :: _) _) _ _ _); refine Stop.of ?_)) | with_reducible (first | k_fold | ((with_reducible refine wpAny_execs_cons ?_); try dsimp only))) | ((with_reducible show wpAny _ _ (call (Value.builtin "len") _) _ _ _); first | with_reducible (((with_reducible show wpAny _ _ (call (Value.builtin _) [Value.ref _]) _ _ _); k_dflt (refine' lenN ?z_N ?z_m ?z_i ?z_b ?_; (case z_N => with_reducible assumption); (case z_m => k_mem); (case z_i => with_reducible assumption); (case z_b => with_reducible assumption))))) | ((with_reducible show wpAny _ _ (eval (PySem.Expr.Call _ _ _ _) _) _ _ _); first | with_reducible ((k_here; (with_reducible show wpAny _ _ (eval (PySem.Expr.Call (PySem.Expr.Name _ _) (PySem.Expr.Name _ _ :: _) [] _) _) _ _ _); k_dflt (rename Fr _ _ _ _ => F8z; refine' callV F8z ?z_X ?z_f ?z_k ?z_a rfl ?_; (case z_X => k_asm); (case z_f => walk_at "mine vv"); (case z_k => k_is); (case z_a => walk_at "mine av")))) | with_reducible (k_fold)) | ((with_reducible show wpAny _ _ (eval (PySem.Expr.Subscript _ _ _) _) _ _ _); first | with_reducible (k_fold)) | ((with_reducible show wpAny _ _ (eval (PySem.Expr.BinOp _ _ _ _) _) _ _ _); first | with_reducible (k_fold)) | ((with_reducible show PyProof.Rows.LCg.CompEnd _ _ _ _ _ _ _ _ _ _ _ _ _ _); first | with_reducible ((k_here; k_dflt (refine' compend0 ?z_F ?z_N ?z_off ?z_S ?_; (case z_F => with_reducible assumption); (case z_N => first | (with_reducible assumption) | exact News.tl (by with_reducible assumption)); (case z_off => with_reducible assumption); (case z_S => first | (with_reducible exact trivial) | exact .inl (by with_reducible assumption) | exact .inr ⟨_, by k_mem, rfl, _, rfl⟩))))) | ((with_reducible show PySem.W.KCiNo _ _ _ _); first | with_reducible (refine Stop.of ?_)) | ((with_reducible show PySem.W.KCiEl _ _ _ _ _); first | with_reducible (refine Stop.of ?_)) | walk1 | dsimp only)
    refine Stop.go ?_
    rename Fr _ _ _ _ => F9
    rename News _ _ _ _ => N9
    refine' CutAt.elim (law_C w) ?ho ?_
    case ho => k_is
    intro c9
    refine' c9 ?B ?F ?X ?T ?N ?oc ?il ?ib ?id ?hb ?ok ?l64 ?hl1 ?hl2 ?lt1 ?lt2 ?lt3 ?dd ?uu
    case B => with_reducible assumption
    case F => exact F9
    case X => with_reducible assumption
    case T => with_reducible assumption
    case N => exact N9
    case oc => assumption
    case il => exact hi
    case ib => with_reducible assumption
    case id => with_reducible assumption
    case hb => with_reducible assumption
    case ok => exact laidG_ok _ _ (fun _ h => nomatch h) fun k hk => ⟨(mem_rangeKs hk).1, by have := (mem_rangeKs hk).2; omega⟩
    case l64 => rw [← hi.length]; exact Nat.le_trans hlen hl64
    case hl1 => with_reducible assumption
    case hl2 => with_reducible assumption
    case lt1 => (simp only [AllLt, and_true]; exact lt1)
    case lt2 => (simp only [NeAll, and_true]; with_reducible assumption)
    case lt3 => (simp only [NeAll, and_true]; exact ⟨Ne.symm o1.1, Ne.symm o1.2.1, Ne.symm o1.2.2.1⟩)
    case dd => with_reducible assumption
    case uu => with_reducible assumption



end
-- part F3
example : True := by w_top off; trivial
section
set_option maxHeartbeats 1500000 in
theorem law_W (w : World) : CutAt w 198 1 fun rest qual scope _ => ∀ {mean : ExcName → Option Value} {mg mb : PySem.Str → Option Value} {dp un : Nat} {gd : Option (List Code)} {outer : List Env} {A₀ : Around} {base g h : Heap} {L : Addr} {tk : Nat} {s : Shared} {fa : Addr} {cd : Value} {sa ad : Addr} {dv : List Value} {ns : List Int} {nd : Nat} {oc : Obj} {ov : Option Value}, Below A₀ base outer g → Fr g L h (fun y => if y = Str.ofString "drawn" then some (Value.ref ad) else bindL (envOfC qual scope L fa cd).kindOf [(Str.ofString "script", .ref sa)] (fun _ => none) y) → (hd.heap_1 w.params).In g → Top topView (looseW topView [PySem.Str.ofString "PIECE_VALUES"]) mean mg mb g → News g L h [(ad, listOf dv.toArray nd), (L + 1, oc)] → oc.data = .cell ov → IntsAre dv ns → ns.length ≤ 63 → AllLt ad [(L + 1, oc)] → dp + 50 < recursionLimit → un + 8 * 50 < cLine → wpAny (model PySem.Challenge.rw_nt0419_01.row.prog w) (ktrTop (dp + 1) (un + 3) gd qual scope L fa cd (cellsFrom (L + 1) scope.names []) outer) (execs rest (envOfC qual scope L fa cd)) (BodyQ (fun v _ => v = .bool true) g L s) (fun _ _ => False) { s with heap := h, toks := tk } := by
  refine' CutAt.of ?ho ?_
  case ho => k_is
  dsimp only [List.drop]
  intro mean mg mb dp un gd outer A₀ base g h L tk s fa cd sa ad dv ns nd oc ov B F X T N hoc i1 hl lt1 hdd huu
  refine letAE ?_
  intro A9 e9
  have sm9 := stMark s
  have mk9 := kstMark
  simp only [AllLt, and_true] at lt1
  repeat' (first | (k_unfold; (try dsimp only)) | ((with_reducible show wpAny _ _ (subscriptTail (PySem.Expr.Name _ _) (PySem.Expr.Constant _ _ _) (Value.ref _) (Value.int _ _)) _ _ _); first | with_reducible ((k_here; (with_reducible show wpAny _ _ (subscriptTail _ _ (Value.ref _) (Value.int _ _)) _ _ _); k_dflt (refine' itemN ?z_N ?z_m ?z_i ?z_h0 ?z_h1 ?z_hk ?_; (case z_N => k_asm); (case z_m => k_mem); (case z_i => with_reducible assumption); (case z_h0 => decide); (case z_h1 => omega); (case z_hk => decide)); intro t9z))) | ((with_reducible show wpAny _ _ (exec (PySem.Stmt.While (PySem.Expr.Compare _ _ _ _) _ _ _) _) _ _ _); first | with_reducible (refine Stop.of ?_)) | ((with_reducible show wpAny _ _ (execs (_ :: _) _) _ _ _); first | with_reducible (first | ((with_reducible show wpAny _ _ (execs (PySem.Stmt.Assign _ (PySem.Expr.Call _ _ _ _) _ :: PySem.Stmt.Assign _ (PySem.Expr.ListComp _ _ _ _) _ :: _) _) _ _ _); refine Stop.of ?_) | k_fold) | with_reducible (first | k_fold | ((with_reducible refine wpAny_execs_cons ?_); try dsimp only))) | ((with_reducible show wpAny _ _ (call (Value.builtin "len") _) _ _ _); first | with_reducible (((with_reducible show wpAny _ _ (call (Value.builtin _) [Value.ref _]) _ _ _); k_dflt (refine' lenN ?z_N ?z_m ?z_i ?z_b ?_; (case z_N => with_reducible assumption); (case z_m => k_mem); (case z_i => with_reducible assumption); (case z_b => with_reducible assumption))))) | ((with_reducible show wpAny _ _ (eval (PySem.Expr.Call _ _ _ _) _) _ _ _); first | with_reducible ((k_here; (with_reducible show wpAny _ _ (eval (PySem.Expr.Call (PySem.Expr.Name _ _) (PySem.Expr.Name _ _ :: _) [] _) _) _ _ _); k_dflt (rename Fr _ _ _ _ => F8z; refine' callV F8z ?z_X ?z_f ?z_k ?z_a rfl ?_; (case z_X => k_asm); (case z_f => walk_at "mine vv"); (case z_k => k_is); (case z_a => walk_at "mine av")))) | with_reducible (k_fold)) | ((with_reducible show wpAny _ _ (call (Value.builtin "list.append") _) _ _ _); first | with_reducible ((k_here; (with_reducible show wpAny _ _ (call (Value.builtin _) [Value.ref _, _]) _ _ _); k_dflt (refine' append_K ?z_k1 ?z_k2 ?z_k3 ?_ ?z_z; (case z_k1 => k_asm); (case z_k2 => k_asm); (case z_k3 => k_upd); (case z_z => size_fits); k_whole); intro h'z F'z N'z; (try simp only [List.push_toArray, List.cons_append, List.nil_append] at N'z); (try k_sweep)))) | ((with_reducible show wpAny _ _ (eval (PySem.Expr.Subscript _ _ _) _) _ _ _); first | with_reducible (k_fold)) | ((with_reducible show wpAny _ _ (eval (PySem.Expr.BinOp _ _ _ _) _) _ _ _); first | with_reducible (k_fold)) | ((with_reducible show PySem.W.KswEnd _ _ _ _ _ _ _ _ _ _ _ _); first | with_reducible (refine Stop.of ?_)) | walk1 | dsimp only)
  refine Stop.go ?_
  rename Fr _ _ _ _ => F9
  rename News _ _ _ _ => N9
  refine' ksw_while (σ := List Value × List Int × Nat) (fun c => [(ad, listOf c.1.toArray c.2.2), (L + 1, oc)]) (fun _ => []) (fun c => IntsAre c.1 c.2.1 ∧ c.2.1.length ≤ 63) [] (fun _ => True) (fun c => 2 - c.2.1.length) (dv, ns, nd) F9 N9 ⟨i1, hl⟩ (fun _ h => nomatch h) trivial ?turn
  case turn =>
    clear F9 N9 i1 hl
    rintro ⟨dv, ns, nd⟩ u h tk' ⟨i1, hl⟩ _ F2 N2
    dsimp only at i1 hl F2 N2
    dsimp only [kstB] at F2
    have hl64 : ns.length ≤ 64 := by omega
    repeat' (first | (k_unfold; (try dsimp only)) | ((with_reducible show wpAny _ _ (subscriptTail (PySem.Expr.Name _ _) (PySem.Expr.Constant _ _ _) (Value.ref _) (Value.int _ _)) _ _ _); first | with_reducible ((k_here; (with_reducible show wpAny _ _ (subscriptTail _ _ (Value.ref _) (Value.int _ _)) _ _ _); k_dflt (refine' itemN ?z_N ?z_m ?z_i ?z_h0 ?z_h1 ?z_hk ?_; (case z_N => k_asm); (case z_m => k_mem); (case z_i => with_reducible assumption); (case z_h0 => decide); (case z_h1 => omega); (case z_hk => decide)); intro t9z))) | ((with_reducible show wpAny _ _ (exec (PySem.Stmt.While (PySem.Expr.Compare _ _ _ _) _ _ _) _) _ _ _); first | with_reducible (refine Stop.of ?_)) | ((with_reducible show wpAny _ _ (execs (_ :: _) _) _ _ _); first | with_reducible (first | ((with_reducible show wpAny _ _ (execs (PySem.Stmt.Assign _ (PySem.Expr.Call _ _ _ _) _ :: PySem.Stmt.Assign _ (PySem.Expr.ListComp _ _ _ _) _ :: _) _) _ _ _); refine Stop.of ?_) | k_fold) | with_reducible (first | k_fold | ((with_reducible refine wpAny_execs_cons ?_); try dsimp only))) | ((with_reducible show wpAny _ _ (call (Value.builtin "len") _) _ _ _); first | with_reducible (((with_reducible show wpAny _ _ (call (Value.builtin _) [Value.ref _]) _ _ _); k_dflt (refine' lenN ?z_N ?z_m ?z_i ?z_b ?_; (case z_N => with_reducible assumption); (case z_m => k_mem); (case z_i => with_reducible assumption); (case z_b => with_reducible assumption))))) | ((with_reducible show wpAny _ _ (eval (PySem.Expr.Call _ _ _ _) _) _ _ _); first | with_reducible ((k_here; (with_reducible show wpAny _ _ (eval (PySem.Expr.Call (PySem.Expr.Name _ _) (PySem.Expr.Name _ _ :: _) [] _) _) _ _ _); k_dflt (rename Fr _ _ _ _ => F8z; refine' callV F8z ?z_X ?z_f ?z_k ?z_a rfl ?_; (case z_X => k_asm); (case z_f => walk_at "mine vv"); (case z_k => k_is); (case z_a => walk_at "mine av")))) | with_reducible (k_fold)) | ((with_reducible show wpAny _ _ (call (Value.builtin "list.append") _) _ _ _); first | with_reducible ((k_here; (with_reducible show wpAny _ _ (call (Value.builtin _) [Value.ref _, _]) _ _ _); k_dflt (refine' append_K ?z_k1 ?z_k2 ?z_k3 ?_ ?z_z; (case z_k1 => k_asm); (case z_k2 => k_asm); (case z_k3 => k_upd); (case z_z => size_fits); k_whole); intro h'z F'z N'z; (try simp only [List.push_toArray, List.cons_append, List.nil_append] at N'z); (try k_sweep)))) | ((with_reducible show wpAny _ _ (eval (PySem.Expr.Subscript _ _ _) _) _ _ _); first | with_reducible (k_fold)) | ((with_reducible show wpAny _ _ (eval (PySem.Expr.BinOp _ _ _ _) _) _ _ _); first | with_reducible (k_fold)) | ((with_reducible show PySem.W.KswEnd _ _ _ _ _ _ _ _ _ _ _ _); first | with_reducible (refine Stop.of ?_)) | walk1 | dsimp only)
    · refine Stop.go ?_
      rename Fr _ _ _ _ => F9
      rename News _ _ _ _ => N9
      have hlt : ns.length < 2 := by omega
      refine' ksw_end (dv ++ [Value.int 0 _], ns ++ [0], nd + 1) F9 N9 (fun p hp => hp) ⟨i1.append (.cons 0 _ .nil), ?q1⟩ (fun _ h => nomatch h) (by ksw_same) trivial ?q2
      case q1 => (show (ns ++ [0]).length ≤ 63; rw [List.length_append]; simp only [List.length_cons, List.length_nil]; omega)
      case q2 => (show 2 - (ns ++ [0]).length < 2 - ns.length; rw [List.length_append]; simp only [List.length_cons, List.length_nil]; omega)
    · refine Stop.go ?_
      rename Fr _ _ _ _ => F9
      rename News _ _ _ _ => N9
      have hl2 : 2 ≤ ns.length := by omega
      have e1 : 0 ≤ (ns.getD (Int.toNat 0) 0).fmod 7 ∧ (ns.getD (Int.toNat 0) 0).fmod 7 < 7 := ⟨Int.fmod_nonneg_of_pos _ (by decide), Int.fmod_lt_of_pos _ (by decide)⟩
      have e2 : 0 ≤ (ns.getD (Int.toNat 1) 0).fmod 6 ∧ (ns.getD (Int.toNat 1) 0).fmod 6 < 6 := ⟨Int.fmod_nonneg_of_pos _ (by decide), Int.fmod_lt_of_pos _ (by decide)⟩
      obtain ⟨f, hf⟩ : ∃ f : Nat, 2 + (ns.getD (Int.toNat 0) 0).fmod 7 = (f : Int) := ⟨(2 + (ns.getD (Int.toNat 0) 0).fmod 7).toNat, by omega⟩
      obtain ⟨r, hr⟩ : ∃ r : Nat, 3 + (ns.getD (Int.toNat 1) 0).fmod 6 = (r : Int) := ⟨(3 + (ns.getD (Int.toNat 1) 0).fmod 6).toNat, by omega⟩
      rw [hf, hr] at F9
      have hf1 : 2 ≤ f := by omega
      have hf2 : f ≤ 8 := by omega
      have hr1 : 3 ≤ r := by omega
      have hr2 : r ≤ 8 := by omega
      refine' CutAt.elim (law_B w) ?ho ?_
      case ho => k_is
      intro c9
      refine' c9 ?B ?F ?X ?T ?N ?oc ?id ?a1 ?a2 ?a3 ?a4 ?a5 ?a6 ?lt1 ?dd ?uu
      case B => with_reducible assumption
      case F => exact F9
      case X => with_reducible assumption
      case T => with_reducible assumption
      case N => exact N9
      case oc => exact hoc
      case id => exact i1
      case a1 => exact hf1
      case a2 => exact hf2
      case a3 => exact hr1
      case a4 => exact hr2
      case a5 => exact hl2
      case a6 => exact hl
      case lt1 => (simp only [AllLt, and_true]; exact lt1)
      case dd => with_reducible assumption
      case uu => with_reducible assumption



end
-- part F4
example : True := by w_top off; trivial
section
set_option maxHeartbeats 1500000 in
theorem law_A (w : World) : CutAt w 198 0 fun rest qual scope _ => ∀ {mean : ExcName → Option Value} {mg mb : PySem.Str → Option Value} {dp un : Nat} {gd : Option (List Code)} {outer : List Env} {A₀ : Around} {base g h : Heap} {L : Addr} {tk : Nat} {s : Shared} {fa : Addr} {cd : Value} {sa : Addr} {vs : List Value} {ns : List Int} {cells : List (Addr × Obj)}, Below A₀ base outer g → Fr g L h (bindL (envOfC qual scope L fa cd).kindOf [(Str.ofString "script", .ref sa)] fun _ => none) → (hd.heap_1 w.params).In g → Top topView (looseW topView [PySem.Str.ofString "PIECE_VALUES"]) mean mg mb g → News g L h cells → CellsAre (bindC (envOfC qual scope L fa cd).kindOf [(Str.ofString "script", .ref sa)] fun _ => none) (cellsFrom (L + 1) scope.names []) cells → g.IsList sa vs.toArray → IntsAre vs ns → ns.length ≤ 63 → dp + 50 < recursionLimit → un + 8 * 50 < cLine → wpAny (model PySem.Challenge.rw_nt0419_01.row.prog w) (ktrTop (dp + 1) (un + 3) gd qual scope L fa cd (cellsFrom (L + 1) scope.names []) outer) (execs rest (envOfC qual scope L fa cd)) (BodyQ (fun v _ => v = .bool true) g L s) (fun _ _ => False) { s with heap := h, toks := tk } := by
  refine' CutAt.of ?ho ?_
  case ho => k_is
  dsimp only [List.drop]
  intro mean mg mb dp un gd outer A₀ base g h L tk s fa cd sa vs ns cells B F X T N Y m1 i1 hlen hdd huu
  refine letAE ?_
  intro A9 e9
  have sm9 := stMark s
  k_cells Y
  have mk9 := kstMark
  repeat' (first | (k_unfold; (try dsimp only)) | ((with_reducible show wpAny _ _ (execs (_ :: _) _) _ _ _); first | with_reducible (((with_reducible show wpAny _ _ (execs (PySem.Stmt.While _ _ _ _ :: _) _) _ _ _); refine Stop.of ?_)) | with_reducible (first | k_fold | ((with_reducible refine wpAny_execs_cons ?_); try dsimp only))) | ((with_reducible show wpAny _ _ (eval (PySem.Expr.Call _ _ _ _) _) _ _ _); first | with_reducible ((k_here; (with_reducible show wpAny _ _ (eval (PySem.Expr.Call (PySem.Expr.Name _ _) (PySem.Expr.Name _ _ :: _) [] _) _) _ _ _); k_dflt (rename Fr _ _ _ _ => F8z; refine' callV F8z ?z_X ?z_f ?z_k ?z_a rfl ?_; (case z_X => k_asm); (case z_f => walk_at "mine vv"); (case z_k => k_is); (case z_a => walk_at "mine av")))) | with_reducible (k_fold)) | ((with_reducible show wpAny _ _ (eval (PySem.Expr.Subscript _ _ _) _) _ _ _); first | with_reducible (k_fold)) | walk1 | dsimp only)
  refine Stop.go ?_
  rename Fr _ _ _ _ => F9
  rename News _ _ _ _ => N9
  rename IntsAre _ (List.take 20 _) => hI
  refine' CutAt.elim (law_W w) ?ho ?_
  case ho => k_is
  intro c9
  refine' c9 ?B ?F ?X ?T ?N ?oc ?id ?a6 ?lt1 ?dd ?uu
  case B => with_reducible assumption
  case F => exact F9
  case X => with_reducible assumption
  case T => with_reducible assumption
  case N => exact News.mk2 N9 (by k_mem) (News.mk2 N9 (by k_mem) News.nil)
  case oc => assumption
  case id => with_reducible assumption
  case a6 => rw [List.length_take]; omega
  case lt1 => (simp only [AllLt, and_true]; omega)
  case dd => with_reducible assumption
  case uu => with_reducible assumption



end
-- part G1
example : True := by w_top off; trivial
section
local macro_rules | `(tactic| k_qdec) => `(tactic| decide +kernel)
set_option maxHeartbeats 4000000 in
theorem fin_holds : PySem.Challenge.rw_nt0419_01.Holds := hd (by
  k_go0
  rename World => w9
  refine' CutAt.elim (law_A w9) ?ho ?_
  case ho => k_is
  intro c9
  refine' wpAny_mono (c9 ?B ?F ?X ?T ?N ?Y ?l ?i ?h63 ?dd ?uu) ?q (fun _ _ e => e.elim)
  case F => (rename Fr _ _ _ _ => F9; exact F9)
  case B => (rename Below _ _ _ _ => K9; exact K9)
  case X => with_reducible assumption
  case T => with_reducible assumption
  case N => (rename News _ _ _ _ => N9; exact N9)
  case Y => (rename CellsAre _ _ _ => Y9; exact Y9)
  case l => with_reducible assumption
  case i => with_reducible assumption
  case h63 => omega
  case dd => decide +kernel
  case uu => decide +kernel
  case q =>
    rintro fl s' ⟨h', tk', m', tl, rfl, F', N', hv⟩
    have kp9 := F'.keep
    cases fl with
    | ret v =>
      have hv' : v = Value.bool true := hv
      subst hv'
      dsimp only
      refine goodW_bool (by with_reducible assumption) (by with_reducible assumption) (raisesW_false ?_) ?_
      · wrow_none_raised
      · wrow_post
    | next => exact absurd (hv : Value.none = Value.bool true) (fun h => nomatch h)
    | brk => exact absurd (hv : Value.none = Value.bool true) (fun h => nomatch h)
    | cont => exact absurd (hv : Value.none = Value.bool true) (fun h => nomatch h))



end
end Mine
set_option maxHeartbeats 4000000 in
theorem PySem.Challenge.cw_nt0419_01_holds : PySem.Challenge.rw_nt0419_01.Holds := by
  exact Mine.fin_holds
