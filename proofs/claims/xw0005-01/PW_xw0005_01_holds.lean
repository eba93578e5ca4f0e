import PyProof.Rows.All
import Wide.All
import OpenK.AllK
import Wide.FinOn
import Lean
import PySem.Challenge.RW_xw0005_01
open PySem PySem.W PySem.Calls PyProof.Rows
set_option Elab.async false
set_option maxRecDepth 100000
set_option compiler.extract_closed false
namespace Mine
-- part LvHead
noncomputable def topRunT (tb : String → Option Builtin) (p : Program) (w : World) (n₀ : Nat) (ann : Option Value) : Nat → SharedT → Thread → Option SharedT
  | 0, _, _ => none
  | n + 1, s, t => match through t with
    | true => some s
    | false => match Fast.tw6613529449190102663 n₀ ann t with
      | false => none
      | true => match Fast.tw10156331382660048174 (Fast.tw11892475500146522536 tb) p w s t with
        | some (s1, t1) => topRunT tb p w n₀ ann n s1 t1
        | none => none
theorem topRun_of {tb : String → Option Builtin} {p : Program} {w : World} {n₀ : Nat} {ann : Option Value} : ∀ {n : Nat} {s s' : SharedT} {t : Thread}, topRunT tb p w n₀ ann n s t = some s' → topRun tb p w n₀ ann n s.abs t = some s'.abs
  | 0, _, _, _, h => by cases h
  | n + 1, s, s', t, h => by
    unfold topRunT at h
    rw [← Fast.te6613529449190102663, ← Fast.te10156331382660048174, ← Fast.te11892475500146522536] at h
    unfold topRun
    cases he : through t with
    | true => rw [he] at h; cases h; rfl
    | false =>
      rw [he] at h
      cases hk : stepOk n₀ ann t with
      | false => rw [hk] at h; cases h
      | true =>
        rw [hk] at h
        cases hs : stepT (denote tb) p w s t with
        | none => rw [hs] at h; cases h
        | some r => obtain ⟨s₂, t₂⟩ := r; rw [hs] at h; rw [stepT_spec hs]; exact topRun_of h
def treeOf (l : List Obj) : BT := (l.foldl (fun (x : BT × Nat) o => (x.1.ins x.2 o, x.2 + 1)) (BT.nil, 0)).1
theorem abs_boot : ∀ (w : World), absHeap (treeOf (boot_heap w.params).objs.toList) (boot_heap w.params).objs.size (boot_heap w.params).life = boot_heap w.params := by intro w; kernel_rfl
theorem open_w {N : Nat} (hN : Nat.ble 600 N = true) : ∀ w : World, (fencedOpening treeTable PySem.Challenge.pw_xw0005_01 w N).map (fun s => (s.heap, s.gens, s.drawn, s.toks)) = some (boot_heap w.params, Array.mk [], boot_drawn, boot_toks) :=
  boot_open (by kernel_rfl) hN (by intro s; kernel_rfl)
theorem boot_is : ∀ w : World, (boot_heap w.params).isNs mainGlobals = true := by intro w; kernel_rfl
theorem left_of {q : Program} {loose : List Str} {Xt : Shared → Bool} {α : Type} {Yf : Shared → α} {Ya : World → α} (N : Nat) (hN : Nat.ble 600 N = true)
    (h : ∀ (w : World) (os : OsState), (topRunT Fast.tw14364793385576792824 PySem.Challenge.pw_xw0005_01 w (boot_heap w.params).objs.size ((boot_heap w.params).nsMap mainGlobals "__annotations__") N
        ⟨treeOf (boot_heap w.params).objs.toList, (boot_heap w.params).objs.size, (boot_heap w.params).life, #[], boot_drawn, boot_toks, os⟩ (topStub PySem.Challenge.pw_xw0005_01)).map (fun s =>
      (staticsOk (importedModules PySem.Challenge.pw_xw0005_01.main.body) (boot_heap w.params) s.abs.heap && namesBound PySem.Challenge.pw_xw0005_01 s.abs.heap && gensDone s.abs && laidKept (boot_heap w.params) s.abs.heap,
       Fast.tw4187177175401517315 q loose (importedModules PySem.Challenge.pw_xw0005_01.main.body) Xt true s.abs, Yf s.abs)) = some (true, openGood q loose, Ya w)) :
    LeftO PySem.Challenge.rw_xw0005_01.row.prog q loose Xt Yf Ya N := fun w => by
  obtain ⟨⟨hp, gs, d, k, os⟩, e, e'⟩ := Option.map_eq_some_iff.mp (open_w hN w)
  obtain ⟨rfl, rfl, rfl, rfl⟩ : hp = boot_heap w.params ∧ gs = #[] ∧ d = boot_drawn ∧ k = boot_toks := by simpa using e'
  obtain ⟨s, a, b⟩ := Option.map_eq_some_iff.mp (h w os)
  simp only [Prod.mk.injEq] at b
  obtain ⟨b1, b2, b3⟩ := b
  rw [← Fast.te4187177175401517315] at b2
  rw [← Fast.te14364793385576792824] at a
  have r := topRun_of a
  have e0 : SharedT.abs ⟨treeOf (boot_heap w.params).objs.toList, (boot_heap w.params).objs.size, (boot_heap w.params).life, #[], boot_drawn, boot_toks, os⟩ = ⟨boot_heap w.params, #[], boot_drawn, boot_toks, os⟩ := by
    unfold SharedT.abs
    rw [abs_boot w]
  rw [e0] at r
  have t : topFrom treeTable PySem.Challenge.pw_xw0005_01 w N ⟨boot_heap w.params, #[], boot_drawn, boot_toks, os⟩ = some s.abs := by
    unfold topFrom
    dsimp only
    rw [boot_is w, r]
    show (match _ && _ && _ && _ with | true => _ | false => _) = _
    rw [b1]
  show (openEnds treeTable PySem.Challenge.pw_xw0005_01 w N).map _ = _
  unfold openEnds
  rw [e]
  show (topFrom treeTable PySem.Challenge.pw_xw0005_01 w N _).map _ = _
  rw [t]
  exact congrArg some (Prod.ext b2 b3)
theorem said_well : OpenLaw.wellSaid PySem.Challenge.rw_xw0005_01 = true := (congrFun Fast.te9446332074065402090 PySem.Challenge.rw_xw0005_01).trans (by kernel_rfl)
section
set_option hygiene false
local macro_rules | `(tactic| o_law) => `(tactic| refine' holds_law said_well fun said => ?_)
set_option hygiene true
set_option hygiene false
local macro_rules | `(tactic| refine $t:term) => `(tactic| (refine' $t; (case hl => exact left_of _ (by exact rfl) (by intro w os; kernel_rfl))))
set_option hygiene true
set_option maxHeartbeats 0 in
open_top hd for PySem.Challenge.rw_xw0005_01
end

-- part LvDoes

theorem in_room {Γ : Ctx} {A : Around} {d u : Nat} (h : Γ.In A) (hd : A.depth ≤ d) (hu : A.units ≤ u) : Γ.In { A with depth := d, units := u } :=
  ⟨h.1, Nat.le_trans h.2.1 hd, h.2.2.1, h.2.2.2.1, Nat.le_trans h.2.2.2.2 hu⟩
theorem wpAny_room {α : Type} {M : Model} {A : Around} {t : Sem α} {Q : α → Shared → Prop} {E : Value → Shared → Prop} {s : Shared} {d u : Nat} (hd : A.depth ≤ d) (hu : A.units ≤ u)
    (h : wpAny M { A with depth := d, units := u } t Q E s) : wpAny M A t Q E s := fun Γ p hΓ => h Γ p (in_room hΓ hd hu)

theorem depth_ktr (dp un : Nat) (gd : Option (List Code)) (cn : Str) (cs : Scope) (L a : Addr) (ccd : Value) (cl : List (Str × Addr)) (outer : List Env) : (ktrTop dp un gd cn cs L a ccd cl outer).depth = dp := rfl

section
variable {prog : Program} {w : World} {A₀ A : Around} {s : Shared} {base h₀ : Heap} {outer : List Env} {L : Addr} {m : Str → Option Value} {K : Frag} {env : Env} {R : Result → Shared → Prop} {p : Program} {loose : List Str} {mean : ExcName → Option Value} {mg mb : Str → Option Value}
/-- a def is entered and the whole heap is the ground that the callee leaves as it is -/
theorem code_defZ {name qual : Str} {params : Arguments} {body : List Stmt} {scope : Scope} {dV kV doc pm cdv ct oc : Value} {an od : Option Addr} {osl : Array (Option Value)} {f : Addr} {args : Args} {binds : List (Str × Value)}
    (B : Below A₀ base outer h₀) (F : Fr h₀ L s.heap m) (X₀ : K.In h₀) (T : Top p loose mean mg mb h₀) (hA : A.frames = some (env :: outer)) (hf : env.frame = some L) (hke : env.scope.kind = .function)
    (ho : K.lookup f = some ⟨oc, od, .func (fnOf name qual params body scope dV kV doc pm an cdv ct), osl⟩) (hcd : codeIn K cdv qual = true) (hroom : A.depth < recursionLimit)
    (hbind : BindsTo s (fnOf name qual params body scope dV kV doc pm an cdv ct) args binds) (hloc : ∀ y ∈ binds, scope.names.lookup y.1 = some .local)
    (h : ∀ L' h₁, Fr s.heap L' h₁ (fun y => binds.reverse.lookup y) → News s.heap L' h₁ [] → Below A base (env :: outer) s.heap → K.In s.heap → Top p loose mean mg mb s.heap →
      wpAny (model prog w) (A.deeper (envOf qual scope L' f cdv)) (execs body (envOf qual scope L' f cdv))
        (fun fl s' => LeaveK h₀ L m s.heap (fun r s' => s.heap.StaysIn s'.heap → R r s') (match fl with | .ret v => v | _ => .none) s')
        (fun e s' => wpAny (model prog w) (A.deeper (envOf qual scope L' f cdv)) (leaving (envOf qual scope L' f cdv) e) (fun _ s'' => R (.error e) s'') (fun e' s'' => R (.error e') s'') s')
        { s with heap := h₁, toks := s.toks + binds.length })
    (hco : scope.isCoroutine = false) (hgen : scope.isGenerator = false) (hk : scope.kind = .function)
    (hcell : ∀ x ∈ scope.names, x.2 ≠ .cell) : codeAny (model prog w) A (.call (.ref f) args) R s := by
  obtain ⟨FG, BG, st, lv⟩ := groundX (R := fun r s' => s.heap.StaysIn s'.heap → R r s') (news := []) B F (fun _ hp => nomatch hp) hA hf hke
  refine codeAny_call_def (fd := fnX name qual params body scope [] dV kV doc pm an cdv ct) (body := body) (binds := binds) hroom ((X₀.keeps F.keep) _ _ ho) rfl (T.nolimit.keeps F.keep) (codeRec_of (X₀.keeps F.keep) hcd) rfl hbind hcell hloc (fun h₁ hns hk₁ => ?_) hco hgen hk
  refine wpAny_mono (h s.heap.objs.size h₁ ⟨hns, hk₁, Nat.le_refl _⟩ (fun _ hp => nomatch hp) BG (X₀.keeps F.keep) (T.keeps F.keep)) (fun fl s' hl => ?_) fun _ _ y => y
  refine lv _ _ hl ?_
  obtain ⟨L', m', news', F', _, _⟩ := hl
  exact F'.keep
end

/-- what a call of f does: it ends, and hands back Out -/
def Does (w : World) (mean : ExcName → Option Value) (mg mb : Str → Option Value) (D U : Nat) (f : Addr) (vs : List Value) (Pre : Heap → Prop)
    (Out : Heap → List (Addr × Obj) → Value → Prop) : Prop :=
  ∀ (gd : Option (List Code)) (cn : Str) (cs : Scope) (a : Addr) (ccd : Value) (cl : List (Str × Addr)) (outer : List Env) (A₀ : Around) (base h₀ : Heap) (L : Addr) (m : Str → Option Value) (s : Shared)
    (Q E : Value → Shared → Prop),
    Below A₀ base outer h₀ → Fr h₀ L s.heap m → (hd.heap_1 w.params).In h₀ → Top hd.view_1 (looseW hd.view_1 [Str.ofString "is_sign"]) mean mg mb h₀ → cs.kind = .function →
    Pre s.heap →
    (∀ r tl h' tk' L', Fr h₀ L h' m → News h₀ L h' tl → s.heap.StaysIn h' → News s.heap L' h' tl → Out h' tl r → Q r { s with heap := h', toks := tk' }) →
    wpAny (model PySem.Challenge.rw_xw0005_01.row.prog w) (ktrTop D U gd cn cs L a ccd cl outer) (call (.ref f) vs) Q E s

theorem does_use {w : World} {mean : ExcName → Option Value} {mg mb : Str → Option Value} {D U : Nat} {f : Addr} {vs : List Value} {Pre : Heap → Prop} {Out : Heap → List (Addr × Obj) → Value → Prop}
    {dp un : Nat} {gd : Option (List Code)} {cn : Str} {cs : Scope} {a : Addr} {ccd : Value} {cl : List (Str × Addr)} {outer : List Env} {A₀ : Around} {base h₀ : Heap} {L : Addr} {m : Str → Option Value} {news : List (Addr × Obj)} {s : Shared}
    {Q E : Value → Shared → Prop}
    (C : Does w mean mg mb D U f vs Pre Out) (B : Below A₀ base outer h₀) (F : Fr h₀ L s.heap m) (X : (hd.heap_1 w.params).In h₀) (N : News h₀ L s.heap news) (T : Top hd.view_1 (looseW hd.view_1 [Str.ofString "is_sign"]) mean mg mb h₀)
    (hk : cs.kind = .function) (hd : dp ≤ D) (hu : un ≤ U) (hp : Pre s.heap)
    (ret : ∀ r tl h' tk', Fr h₀ L h' m → News h₀ L h' (tl ++ news) → (∀ q ∈ news, ∀ p ∈ tl, p.1 ≠ q.1) → Out h' tl r → Q r { s with heap := h', toks := tk' }) :
    wpAny (model PySem.Challenge.rw_xw0005_01.row.prog w) (ktrTop dp un gd cn cs L a ccd cl outer) (call (.ref f) vs) Q E s :=
  wpAny_room (d := D) (u := U) hd hu (C gd cn cs a ccd cl outer A₀ base h₀ L m s Q E B F X T hk hp fun r tl h' tk' L' F' N' st N₂ o => ret r tl h' tk' F'
    (fun p hp => (List.mem_append.mp hp).elim (N' p) fun hq => ⟨st _ _ (N p hq).1, (N p hq).2⟩)
    (fun q hq p hp e => by have h1 := (N q hq).1; rw [← e, (N₂ p hp).2.2] at h1; cases h1) o)

-- part LvNode

abbrev tupObj (vs : List Value) : Obj := { cls := .type "tuple", data := .seq vs.toArray }

/-- an object of C whose dict's entries are es -/
def InstOn (P : Addr → Obj → Prop) (C x : Addr) (es : List DictEntry) : Prop := ∃ dx n, P x (instObj C dx) ∧ P dx (dictOf es n)
def SubOn (P : Addr → Obj → Prop) (x t : Addr) : Prop := ∃ es, InstOn P 260 x es ∧ getL (Str.ofString "type") es = some (some (.ref t))
def RowOn (P : Addr → Obj → Prop) (row t : Addr) : Prop := ∃ nm tk sub, P row (tupObj [.str nm tk, .ref sub, .none]) ∧ SubOn P sub t
/-- what the checks read of a Type -/
structure Fields (es : List DictEntry) (kind : Str) (num : Int) (lc : Addr) (variant desig comp : Value) : Prop where
  kind : ∃ tk, getL (Str.ofString "kind") es = some (some (.str kind tk))
  number : ∃ tk, getL (Str.ofString "number") es = some (some (.int num tk))
  components : getL (Str.ofString "components") es = some (some (.ref lc))
  variant : getL (Str.ofString "variant") es = some (some variant)
  designated : getL (Str.ofString "designated") es = some (some desig)
  component : getL (Str.ofString "component") es = some (some comp)
inductive LinkOn (P : Addr → Obj → Prop) (x : Addr) (num : Int) (last before : Addr) : Prop
  | arr {es lc n sub} : InstOn P 239 x es → Fields es (Str.ofString "array") num lc .none .none (.ref sub) → P lc (listOf #[] n) → SubOn P sub last → LinkOn P x num last before
  | priv {es lc n sub} : InstOn P 239 x es → Fields es (Str.ofString "private") num lc .none (.ref sub) .none → P lc (listOf #[] n) → SubOn P sub last → LinkOn P x num last before
  | var {es lc n v t1 vl n1 c1 c2 h1 h2 l1 l2 n2 n3 r1 r2} : InstOn P 239 x es → Fields es (Str.ofString "record") num lc (.ref v) .none .none → P lc (listOf #[] n) → P v (tupObj [.str (Str.ofString "d") t1, .ref vl]) → P vl (listOf #[.ref c1, .ref c2] n1) →
      P c1 (tupObj [.ref h1, .ref l1, .none]) → P c2 (tupObj [.ref h2, .ref l2, .none]) → P l1 (listOf #[.ref r1] n2) → P l2 (listOf #[.ref r2] n3) → RowOn P r1 last → RowOn P r2 before → LinkOn P x num last before
  | both {es lc n r1 r2} : InstOn P 239 x es → Fields es (Str.ofString "record") num lc .none .none .none → P lc (listOf #[.ref r1, .ref r2] n) → RowOn P r1 last → RowOn P r2 before → LinkOn P x num last before
  | one {es lc n r1} : InstOn P 239 x es → Fields es (Str.ofString "record") num lc .none .none .none → P lc (listOf #[.ref r1] n) → RowOn P r1 last → LinkOn P x num last before
inductive FootOn (P : Addr → Obj → Prop) (x : Addr) : Prop
  | whole {es lc n} : InstOn P 239 x es → Fields es (Str.ofString "int") 5 lc .none .none .none → P lc (listOf #[] n) → FootOn P x
  | access {es lc n sub} : InstOn P 239 x es → Fields es (Str.ofString "access") 60 lc .none (.ref sub) .none → P lc (listOf #[] n) → FootOn P x

section
variable {P P' : Addr → Obj → Prop} (k : ∀ a o, P a o → P' a o)
include k
theorem InstOn.mono {C x : Addr} {es : List DictEntry} : InstOn P C x es → InstOn P' C x es := fun ⟨dx, n, a, b⟩ => ⟨dx, n, k _ _ a, k _ _ b⟩
theorem SubOn.mono {x t : Addr} : SubOn P x t → SubOn P' x t := fun ⟨es, a, b⟩ => ⟨es, a.mono k, b⟩
theorem RowOn.mono {x t : Addr} : RowOn P x t → RowOn P' x t := fun ⟨nm, tk, sub, a, b⟩ => ⟨nm, tk, sub, k _ _ a, b.mono k⟩
theorem LinkOn.mono {x : Addr} {num : Int} {last before : Addr} : LinkOn P x num last before → LinkOn P' x num last before
  | .arr a b c d => .arr (a.mono k) b (k _ _ c) (d.mono k)
  | .priv a b c d => .priv (a.mono k) b (k _ _ c) (d.mono k)
  | .var a b c d e f g h i j l => .var (a.mono k) b (k _ _ c) (k _ _ d) (k _ _ e) (k _ _ f) (k _ _ g) (k _ _ h) (k _ _ i) (j.mono k) (l.mono k)
  | .both a b c d e => .both (a.mono k) b (k _ _ c) (d.mono k) (e.mono k)
  | .one a b c d => .one (a.mono k) b (k _ _ c) (d.mono k)
theorem FootOn.mono {x : Addr} : FootOn P x → FootOn P' x
  | .whole a b c => .whole (a.mono k) b (k _ _ c)
  | .access a b c => .access (a.mono k) b (k _ _ c)
end

def AllNe (d : Addr) : List (Addr × Obj) → Prop
  | [] => True
  | p :: r => @Ne Nat p.1 d ∧ AllNe d r
theorem allNe_of {d : Addr} : ∀ {l : List (Addr × Obj)}, (∀ p ∈ l, p.1 ≠ d) → AllNe d l
  | [], _ => trivial
  | p :: _, h => ⟨h p (.head _), allNe_of fun q hq => h q (.tail _ hq)⟩
theorem allNe_all {d : Addr} : ∀ {l : List (Addr × Obj)}, AllNe d l → ∀ p ∈ l, p.1 ≠ d
  | [], _, _, hp => nomatch hp
  | q :: r, h, p, hp => by
    rcases List.mem_cons.mp hp with rfl | hp
    · exact h.1
    · exact allNe_all h.2 p hp
abbrev GetsIn (h : Heap) : Addr → Obj → Prop := fun a o => h.get? a = some o
abbrev MadeIn (tl : List (Addr × Obj)) : Addr → Obj → Prop := fun a o => (a, o) ∈ tl
theorem inst_base {h₀ h : Heap} {L x C dx : Addr} {m : Str → Option Value} {od : Obj} {sl : Array (Option Value)} (F : Fr h₀ L h m) (h1 : h₀.get? x = some (⟨.ref C, some dx, .plain, sl⟩ : Obj)) (h2 : h₀.get? dx = some od) :
    InstAt h x ⟨.ref C, some dx, .plain, sl⟩ C (some od) := ⟨F.keep _ _ h1, rfl, rfl, F.keep _ _ h2⟩
theorem tup_of {h : Heap} {a : Addr} {vs : List Value} (e : h.get? a = some (tupObj vs)) : IsTup h a vs.toArray := ⟨_, e, rfl, 0, rfl⟩
theorem lst_of {h : Heap} {a : Addr} {vs : Array Value} {n : Nat} (e : h.get? a = some (listOf vs n)) : h.IsList a vs := ⟨_, e, rfl, n, rfl⟩

/-- a call that hands back a new list -/
theorem does_list {w : World} {mean : ExcName → Option Value} {mg mb : Str → Option Value} {D U : Nat} {f : Addr} {vs : List Value} {Pre : Heap → Prop} {items : Array Value}
    {dp un : Nat} {gd : Option (List Code)} {cn : Str} {cs : Scope} {a : Addr} {ccd : Value} {cl : List (Str × Addr)} {outer : List Env} {A₀ : Around} {base h₀ : Heap} {L : Addr} {m : Str → Option Value} {news : List (Addr × Obj)} {s : Shared}
    {Q E : Value → Shared → Prop}
    (C : Does w mean mg mb D U f vs Pre (fun _ tl r => ∃ l n, r = .ref l ∧ (l, listOf items n) ∈ tl)) (B : Below A₀ base outer h₀) (F : Fr h₀ L s.heap m) (X : (hd.heap_1 w.params).In h₀) (N : News h₀ L s.heap news) (T : Top hd.view_1 (looseW hd.view_1 [Str.ofString "is_sign"]) mean mg mb h₀)
    (hk : cs.kind = .function) (hd : dp ≤ D) (hu : un ≤ U) (hp : Pre s.heap)
    (ret : ∀ l n h' tk', Fr h₀ L h' m → News h₀ L h' ((l, listOf items n) :: news) → AllNe l news → Q (.ref l) { s with heap := h', toks := tk' }) :
    wpAny (model PySem.Challenge.rw_xw0005_01.row.prog w) (ktrTop dp un gd cn cs L a ccd cl outer) (call (.ref f) vs) Q E s :=
  does_use C B F X N T hk hd hu hp fun r tl h' tk' F' N' ne ⟨l, n, e, hm⟩ => by
    subst e
    refine ret l n h' tk' F' (fun p hp => ?_) (allNe_of fun q hq e => ne q hq _ hm e.symm)
    rcases List.mem_cons.mp hp with rfl | hp
    · exact N' _ (List.mem_append.mpr (.inl hm))
    · exact N' _ (List.mem_append.mpr (.inr hp))
section
variable {prog : Program} {w : World} {A₀ A : Around} {s : Shared} {base h₀ : Heap} {outer : List Env} {L : Addr} {m : Str → Option Value} {K : Frag} {env : Env} {R : Result → Shared → Prop} {p : Program} {loose : List Str} {mean : ExcName → Option Value} {mg mb : Str → Option Value}
/-- a def is entered; the ledger led goes in with it, all else is the ground -/
theorem code_defW {led : List (Addr × Obj)} {name qual : Str} {params : Arguments} {body : List Stmt} {scope : Scope} {dV kV doc pm cdv ct oc : Value} {an od : Option Addr} {osl : Array (Option Value)} {f : Addr} {args : Args} {binds : List (Str × Value)}
    (B : Below A₀ base outer h₀) (F : Fr h₀ L s.heap m) (X₀ : K.In h₀) (N : News h₀ L s.heap led) (T : Top p loose mean mg mb h₀) (hA : A.frames = some (env :: outer)) (hf : env.frame = some L) (hke : env.scope.kind = .function)
    (ho : K.lookup f = some ⟨oc, od, .func (fnOf name qual params body scope dV kV doc pm an cdv ct), osl⟩) (hcd : codeIn K cdv qual = true) (hroom : A.depth < recursionLimit)
    (hbind : BindsTo s (fnOf name qual params body scope dV kV doc pm an cdv ct) args binds) (hloc : ∀ y ∈ binds, scope.names.lookup y.1 = some .local)
    (h : ∀ g L' h₁, g = hideAll s.heap (led.map (·.1)) → Fr g L' h₁ (fun y => binds.reverse.lookup y) → News g L' h₁ led → Below A base (env :: outer) g → K.In g → Top p loose mean mg mb g →
      wpAny (model prog w) (A.deeper (envOf qual scope L' f cdv)) (execs body (envOf qual scope L' f cdv))
        (fun fl s' => LeaveK h₀ L m g (fun r s' => g.StaysIn s'.heap → R r s') (match fl with | .ret v => v | _ => .none) s')
        (fun e s' => wpAny (model prog w) (A.deeper (envOf qual scope L' f cdv)) (leaving (envOf qual scope L' f cdv) e) (fun _ s'' => R (.error e) s'') (fun e' s'' => R (.error e') s'') s')
        { s with heap := h₁, toks := s.toks + binds.length })
    (hco : scope.isCoroutine = false) (hgen : scope.isGenerator = false) (hk : scope.kind = .function)
    (hcell : ∀ x ∈ scope.names, x.2 ≠ .cell) : codeAny (model prog w) A (.call (.ref f) args) R s := by
  obtain ⟨FG, BG, st, lv⟩ := groundX (R := fun r s' => (hideAll s.heap (led.map (·.1))).StaysIn s'.heap → R r s') B F N hA hf hke
  refine codeAny_call_def (fd := fnX name qual params body scope [] dV kV doc pm an cdv ct) (body := body) (binds := binds) hroom ((X₀.keeps F.keep) _ _ ho) rfl (T.nolimit.keeps F.keep) (codeRec_of (X₀.keeps F.keep) hcd) rfl hbind hcell hloc (fun h₁ hns hk₁ => ?_) hco hgen hk
  refine wpAny_mono (h _ s.heap.objs.size h₁ rfl ⟨hns, fun b o e => hk₁ b o (of_hideAll _ e), Nat.le_of_eq (hideAll_size _ _)⟩
    (fun p hp => ⟨hk₁ _ _ (N p hp).1, Nat.ne_of_lt (Heap.lt_size (N p hp).1), hideAll_none _ (List.mem_map_of_mem hp)⟩) BG (X₀.keeps st) (T.keeps st)) (fun fl s' hl => ?_) fun _ _ y => y
  refine lv _ _ hl ?_
  obtain ⟨L', m', news', F', _, _⟩ := hl
  exact F'.keep
theorem stays_hidden {h h' g : Heap} {led : List (Addr × Obj)} (hg : g = hideAll h (led.map (·.1))) (hl : ∀ p ∈ led, h.get? p.1 = some p.2) (st : g.StaysIn h') (hl' : ∀ p ∈ led, h'.get? p.1 = some p.2) : h.StaysIn h' := fun b o e => by
  by_cases hm : b ∈ led.map (·.1)
  · obtain ⟨p, hp, rfl⟩ := List.mem_map.mp hm
    rw [hl p hp] at e
    rw [← Option.some.inj e]
    exact hl' p hp
  · exact st b o (hg ▸ hideAll_get _ e hm)
theorem new_hidden {h g : Heap} {led : List (Addr × Obj)} {a : Addr} (hg : g = hideAll h (led.map (·.1))) (hn : g.get? a = none) (ne : ∀ p ∈ led, p.1 ≠ a) : h.get? a = none := by
  cases q : h.get? a with
  | none => rfl
  | some o =>
    rw [hg, hideAll_get _ q (fun hm => by obtain ⟨p, hp, e⟩ := List.mem_map.mp hm; exact ne p hp e)] at hn
    cases hn
end

/-- what a call of f does whose argument's objects are led: a new list comes back -/
def DoesL (w : World) (mean : ExcName → Option Value) (mg mb : Str → Option Value) (D U : Nat) (f : Addr) (vs : List Value) (led : List (Addr × Obj)) (items : Array Value) : Prop :=
  ∀ (gd : Option (List Code)) (cn : Str) (cs : Scope) (a : Addr) (ccd : Value) (cl : List (Str × Addr)) (outer : List Env) (A₀ : Around) (base h₀ : Heap) (L : Addr) (m : Str → Option Value) (s : Shared)
    (Q E : Value → Shared → Prop),
    Below A₀ base outer h₀ → Fr h₀ L s.heap m → (hd.heap_1 w.params).In h₀ → News h₀ L s.heap led → Top hd.view_1 (looseW hd.view_1 [Str.ofString "is_sign"]) mean mg mb h₀ → cs.kind = .function →
    (∀ l n h' tk', Fr h₀ L h' m → News h₀ L h' [(l, listOf items n)] → s.heap.StaysIn h' → s.heap.get? l = none → Q (.ref l) { s with heap := h', toks := tk' }) →
    wpAny (model PySem.Challenge.rw_xw0005_01.row.prog w) (ktrTop D U gd cn cs L a ccd cl outer) (call (.ref f) vs) Q E s

theorem doesL_use {w : World} {mean : ExcName → Option Value} {mg mb : Str → Option Value} {D U : Nat} {f : Addr} {vs : List Value} {led : List (Addr × Obj)} {items : Array Value}
    {dp un : Nat} {gd : Option (List Code)} {cn : Str} {cs : Scope} {a : Addr} {ccd : Value} {cl : List (Str × Addr)} {outer : List Env} {A₀ : Around} {base h₀ : Heap} {L : Addr} {m : Str → Option Value} {news : List (Addr × Obj)} {s : Shared}
    {Q E : Value → Shared → Prop}
    (C : DoesL w mean mg mb D U f vs led items) (B : Below A₀ base outer h₀) (F : Fr h₀ L s.heap m) (X : (hd.heap_1 w.params).In h₀) (N : News h₀ L s.heap news) (T : Top hd.view_1 (looseW hd.view_1 [Str.ofString "is_sign"]) mean mg mb h₀)
    (hk : cs.kind = .function) (hd : dp ≤ D) (hu : un ≤ U) (hp : ∀ p ∈ led, p ∈ news)
    (ret : ∀ l n h' tk', Fr h₀ L h' m → News h₀ L h' ((l, listOf items n) :: news) → AllNe l news → Q (.ref l) { s with heap := h', toks := tk' }) :
    wpAny (model PySem.Challenge.rw_xw0005_01.row.prog w) (ktrTop dp un gd cn cs L a ccd cl outer) (call (.ref f) vs) Q E s :=
  wpAny_room (d := D) (u := U) hd hu (C gd cn cs a ccd cl outer A₀ base h₀ L m s Q E B F X (fun p h => N p (hp p h)) T hk fun l n h' tk' F' N' st hn => by
    refine ret l n h' tk' F' (fun p hp => ?_) (allNe_of fun q hq e => ?_)
    · rcases List.mem_cons.mp hp with rfl | hp
      · exact N' _ (.head _)
      · exact ⟨st _ _ (N p hp).1, (N p hp).2⟩
    · have h1 := (N q hq).1
      rw [e, hn] at h1
      cases h1)
/-- the end of such a call -/
theorem doesL_end {h₀ h h' g : Heap} {L L' l : Addr} {m : Str → Option Value} {led fin fin' : List (Addr × Obj)} {items : Array Value} {n : Nat} {P : Prop}
    (hg : g = hideAll h (led.map (·.1))) (N : News h₀ L h led) (st : g.StaysIn h') (F : Fr h₀ L h' m) (N₁ : News h₀ L h' fin) (N₂ : News g L' h' fin') (hm : (l, listOf items n) ∈ fin) (hm' : (l, listOf items n) ∈ fin') (hs : ∀ p ∈ led, p ∈ fin) (ne : ∀ p ∈ led, p.1 ≠ l)
    (k : Fr h₀ L h' m → News h₀ L h' [(l, listOf items n)] → h.StaysIn h' → h.get? l = none → P) : P :=
  k F (fun p hp => by rw [List.mem_singleton.mp hp]; exact N₁ _ hm) (stays_hidden hg (fun p hp => (N p hp).1) st fun p hp => (N₁ p (hs p hp)).1) (new_hidden hg (N₂ _ hm').2.2 ne)
section
variable {prog : Program} {w : World} {A : Around} {E : Value → Shared → Prop} {s : Shared} {h₀ h : Heap} {L D b : Addr} {m : Str → Option Value} {news news' : List (Addr × Obj)} {its its2 : Array Value} {l : List Value} {n n2 : Nat}
theorem seq_list_iadd : seqSlot? (.type "list") (dunderI "add") = pure (some (.builtin "list.__iadd__")) := PyProof.Rows.seqSlot_of PySem.F.slot_list_iadd.lookup (by decide +kernel)
/-- x += y upon two lists -/
theorem list_iadd {Q : Value → Shared → Prop} (F : Fr h₀ L s.heap m) (N : News h₀ L s.heap news) (hb : (b, listOf its2 n2) ∈ news) (e : its.toList ++ its2.toList = l) (hne : its2.toList.length ≠ 0)
    (U : Upd D (listOf its n) (listOf l.toArray (n + 1)) news news') (hd : ¬(!its.isEmpty && Builtin.List.listTooLong (its.size + its2.size)) = true) (hz : its.toList.length ≤ sizeLine) (hz2 : its.size + its2.size ≤ sizeLine + 1)
    (h : ∀ h', Fr h₀ L h' m → News h₀ L h' news' → Q (.ref D) { s with heap := h' }) : wpAny (model prog w) A (inplaceOp .Add (.ref D) (.ref b)) Q E s := by
  obtain ⟨pre, post, rfl, rfl, a, c⟩ := U.split
  have z := N (D, listOf its n) (List.mem_append.mpr (.inr (.head _)))
  have ha : s.TypeIs (.ref D) "list" := ⟨_, z.1, rfl⟩
  have hbT : s.TypeIs (.ref b) "list" := ⟨_, (N _ hb).1, rfl⟩
  unfold inplaceOp
  refine wpAny_holding ?_
  have hfi : fillsInplaceSlot (.type "list") "add" (Operator.Add == .Add) = pure false := by
    unfold fillsInplaceSlot
    show (typeLookup (.type "list") (dunderI "add") >>= fun fi => pure (fi.isSome && !isSeqSlot fi)) = pure false
    rw [PySem.F.slot_list_iadd.lookup, pure_bind]
    exact congrArg pure (by decide +kernel)
  refine wpAny_bind (wpAny_typeOf ha (wpAny_bind (wpAny_of_eq hfi ?_)))
  show wpAny _ A (if false = true then _ else _) Q E s
  rw [if_neg Bool.false_ne_true]
  refine wpAny_bind (PyProof.Rows.binaryOp1_none (nm := "add") ha hbT noFill_list_add ?_)
  refine wpAny_bind (wpAny_of_eq seq_list_iadd ?_)
  refine wpAny_bind (wpAny_rule ?_)
  refine call_meets PySem.F.slot_list_iadd ha PySem.F.entry_list_iadd (PySem.F.args_list_iadd_2 _ _) (PySem.AutoSeq1.list___iadd___list_list_0 D its n b its2 n2 hd (by simpa using hz) hz2) ⟨z.1, (N _ hb).1, h _ (F.change (Heap.SameBut.update ..) z.2.1 z.2.2) (kl_turn _ N a c ?_ ?_)⟩
  · subst e
    apply Array.toList_inj.mp
    simp
  · subst e
    simp at hne ⊢
    exact hne
end
theorem compEnd_same {h₀ : Heap} {L I C D : Addr} {m : Str → Option Value} {s₁ : Shared} {oI oC oD : Obj} {S : List (Addr × Obj) → Prop} {rest : Value → List (Addr × Obj) → Prop} {y : Value} {h' : Heap} {tk : Nat} {news' : List (Addr × Obj)}
    (F : Fr h₀ L h' m) (N : News h₀ L h' ((I, oI) :: (C, oC) :: (D, oD) :: news')) (off : LCg.Off3 I C D news') (hS : S news') (r : rest y news') :
    LCg.CompEnd h₀ L m s₁ I oI C oC D oD S rest y { s₁ with heap := h', toks := tk } := LCg.CompEnd.intro F N news' (fun _ h => h) off hS r
theorem News.pick3 {h₀ h : Heap} {L x dx lc : Addr} {ox od ol : Obj} {led news : List (Addr × Obj)} (N : News h₀ L h led) (h1 : (x, ox) ∈ led) (h2 : (dx, od) ∈ led) (h3 : (lc, ol) ∈ led) (h4 : ∀ p ∈ news, p ∈ led) :
    News h₀ L h ((lc, ol) :: (x, ox) :: (dx, od) :: news) := fun p hp => by
  rcases List.mem_cons.mp hp with rfl | hp
  · exact N _ h3
  rcases List.mem_cons.mp hp with rfl | hp
  · exact N _ h1
  rcases List.mem_cons.mp hp with rfl | hp
  · exact N _ h2
  exact N _ (h4 p hp)

-- part LvFnd
/-- the value that stands at a name -/
def fnd (name : Str) : List DictEntry → Option Value
  | [] => none
  | e :: r => if e.key.isStr name then some e.val else fnd name r
theorem fnd_find (name : Str) : ∀ es : List DictEntry, (es.find? fun x => x.key.isStr name).map (·.val) = fnd name es
  | [] => rfl
  | e :: r => by
    rw [List.find?_cons, fnd]
    cases h : e.key.isStr name with
    | true => rfl
    | false => exact fnd_find name r
theorem getL_fnd {name : Str} {es : List DictEntry} {v : Value} : getL name es = some (some v) ↔ fnd name es = some v := by
  rw [← fnd_find]
  unfold getL
  cases h : es.find? fun x => x.key.isStr name with
  | some e => simp
  | none =>
    dsimp only [Option.map]
    constructor
    · intro q
      split at q <;> cases q
    · intro q
      cases q
theorem isStr_inj {k : Value} {a b : Str} (h1 : k.isStr a = true) (h2 : k.isStr b = true) : a = b := by
  cases k <;> simp [Value.isStr] at h1 h2
  exact h1.symm.trans h2
theorem fnd_put_same {name : Str} {hsh : Int} {key v u : Value} : ∀ {es : List DictEntry}, fnd name es = some u → fnd name (putL name hsh key v es) = some v
  | [], h => nomatch h
  | e :: r, h => by
    unfold putL
    by_cases hk : e.key.isStr name = true
    · rw [if_pos hk, fnd, if_pos hk]
    · rw [if_neg hk, fnd, if_neg hk]
      rw [fnd, if_neg hk] at h
      exact fnd_put_same h
theorem fnd_put_other {name name2 : Str} {hsh : Int} {key v u : Value} (ne : name2 ≠ name) : ∀ {es : List DictEntry}, fnd name es = some u → fnd name2 (putL name hsh key v es) = fnd name2 es
  | [], h => nomatch h
  | e :: r, h => by
    unfold putL
    by_cases hk : e.key.isStr name = true
    · have hk2 : ¬ e.key.isStr name2 = true := fun q => ne (isStr_inj q hk)
      rw [if_pos hk, fnd, fnd, if_neg hk2, if_neg hk2]
    · rw [if_neg hk, fnd, fnd]
      rw [fnd, if_neg hk] at h
      rw [fnd_put_other ne h]
theorem putL_len {name : Str} {hsh : Int} {key v u : Value} : ∀ {es : List DictEntry}, fnd name es = some u → (putL name hsh key v es).length = es.length
  | [], h => nomatch h
  | e :: r, h => by
    unfold putL
    by_cases hk : e.key.isStr name = true
    · rw [if_pos hk]
      rfl
    · rw [if_neg hk]
      rw [fnd, if_neg hk] at h
      show (putL name hsh key v r).length + 1 = r.length + 1
      rw [putL_len h]

-- part LvTy
/-- what is known of a Type's dict, its entries unsaid -/
structure TyEs (es : List DictEntry) (kind : Value) (num : Int) (lc variant desig comp : Value) : Prop where
  kind : fnd (Str.ofString "kind") es = some kind
  number : ∃ u, fnd (Str.ofString "number") es = some (.int num u)
  components : fnd (Str.ofString "components") es = some lc
  variant : fnd (Str.ofString "variant") es = some variant
  designated : fnd (Str.ofString "designated") es = some desig
  component : fnd (Str.ofString "component") es = some comp
  low : ∃ u, fnd (Str.ofString "low") es = some u
  high : ∃ u, fnd (Str.ofString "high") es = some u
  index : ∃ u, fnd (Str.ofString "index") es = some u
  is_constrained : ∃ u, fnd (Str.ofString "is_constrained") es = some u
  discriminants : ∃ u, fnd (Str.ofString "discriminants") es = some u
  len : es.length ≤ 100
theorem TyEs.fields {es : List DictEntry} {kind : Str} {tk : Tok} {num : Int} {lc : Addr} {v d c : Value} (R : TyEs es (.str kind tk) num (.ref lc) v d c) : Fields es kind num lc v d c :=
  ⟨⟨tk, getL_fnd.mpr R.kind⟩, let ⟨u, h⟩ := R.number; ⟨u, getL_fnd.mpr h⟩, getL_fnd.mpr R.components, getL_fnd.mpr R.variant, getL_fnd.mpr R.designated, getL_fnd.mpr R.component⟩
section
variable {es : List DictEntry} {kind : Value} {num : Int} {lc variant desig comp v : Value} {hsh : Int} {key : Value}
theorem TyEs.put_number {j : Int} {u : Tok} (R : TyEs es kind num lc variant desig comp) : TyEs (putL (Str.ofString "number") hsh key (.int j u) es) kind j lc variant desig comp := by
  obtain ⟨u0, f⟩ := R.number
  exact ⟨(fnd_put_other (by decide) f).trans R.kind, ⟨_, fnd_put_same f⟩, (fnd_put_other (by decide) f).trans R.components, (fnd_put_other (by decide) f).trans R.variant, (fnd_put_other (by decide) f).trans R.designated, (fnd_put_other (by decide) f).trans R.component, (let ⟨w, g⟩ := R.low; ⟨w, (fnd_put_other (by decide) f).trans g⟩), (let ⟨w, g⟩ := R.high; ⟨w, (fnd_put_other (by decide) f).trans g⟩), (let ⟨w, g⟩ := R.index; ⟨w, (fnd_put_other (by decide) f).trans g⟩), (let ⟨w, g⟩ := R.is_constrained; ⟨w, (fnd_put_other (by decide) f).trans g⟩), (let ⟨w, g⟩ := R.discriminants; ⟨w, (fnd_put_other (by decide) f).trans g⟩), by rw [putL_len f]; exact R.len⟩
theorem TyEs.put_low (R : TyEs es kind num lc variant desig comp) : TyEs (putL (Str.ofString "low") hsh key v es) kind num lc variant desig comp := by
  obtain ⟨u0, f⟩ := R.low
  exact ⟨(fnd_put_other (by decide) f).trans R.kind, (let ⟨w, g⟩ := R.number; ⟨w, (fnd_put_other (by decide) f).trans g⟩), (fnd_put_other (by decide) f).trans R.components, (fnd_put_other (by decide) f).trans R.variant, (fnd_put_other (by decide) f).trans R.designated, (fnd_put_other (by decide) f).trans R.component, ⟨_, fnd_put_same f⟩, (let ⟨w, g⟩ := R.high; ⟨w, (fnd_put_other (by decide) f).trans g⟩), (let ⟨w, g⟩ := R.index; ⟨w, (fnd_put_other (by decide) f).trans g⟩), (let ⟨w, g⟩ := R.is_constrained; ⟨w, (fnd_put_other (by decide) f).trans g⟩), (let ⟨w, g⟩ := R.discriminants; ⟨w, (fnd_put_other (by decide) f).trans g⟩), by rw [putL_len f]; exact R.len⟩
theorem TyEs.put_high (R : TyEs es kind num lc variant desig comp) : TyEs (putL (Str.ofString "high") hsh key v es) kind num lc variant desig comp := by
  obtain ⟨u0, f⟩ := R.high
  exact ⟨(fnd_put_other (by decide) f).trans R.kind, (let ⟨w, g⟩ := R.number; ⟨w, (fnd_put_other (by decide) f).trans g⟩), (fnd_put_other (by decide) f).trans R.components, (fnd_put_other (by decide) f).trans R.variant, (fnd_put_other (by decide) f).trans R.designated, (fnd_put_other (by decide) f).trans R.component, (let ⟨w, g⟩ := R.low; ⟨w, (fnd_put_other (by decide) f).trans g⟩), ⟨_, fnd_put_same f⟩, (let ⟨w, g⟩ := R.index; ⟨w, (fnd_put_other (by decide) f).trans g⟩), (let ⟨w, g⟩ := R.is_constrained; ⟨w, (fnd_put_other (by decide) f).trans g⟩), (let ⟨w, g⟩ := R.discriminants; ⟨w, (fnd_put_other (by decide) f).trans g⟩), by rw [putL_len f]; exact R.len⟩
theorem TyEs.put_index (R : TyEs es kind num lc variant desig comp) : TyEs (putL (Str.ofString "index") hsh key v es) kind num lc variant desig comp := by
  obtain ⟨u0, f⟩ := R.index
  exact ⟨(fnd_put_other (by decide) f).trans R.kind, (let ⟨w, g⟩ := R.number; ⟨w, (fnd_put_other (by decide) f).trans g⟩), (fnd_put_other (by decide) f).trans R.components, (fnd_put_other (by decide) f).trans R.variant, (fnd_put_other (by decide) f).trans R.designated, (fnd_put_other (by decide) f).trans R.component, (let ⟨w, g⟩ := R.low; ⟨w, (fnd_put_other (by decide) f).trans g⟩), (let ⟨w, g⟩ := R.high; ⟨w, (fnd_put_other (by decide) f).trans g⟩), ⟨_, fnd_put_same f⟩, (let ⟨w, g⟩ := R.is_constrained; ⟨w, (fnd_put_other (by decide) f).trans g⟩), (let ⟨w, g⟩ := R.discriminants; ⟨w, (fnd_put_other (by decide) f).trans g⟩), by rw [putL_len f]; exact R.len⟩
theorem TyEs.put_component (R : TyEs es kind num lc variant desig comp) : TyEs (putL (Str.ofString "component") hsh key v es) kind num lc variant desig v := by
  have f := R.component
  exact ⟨(fnd_put_other (by decide) f).trans R.kind, (let ⟨w, g⟩ := R.number; ⟨w, (fnd_put_other (by decide) f).trans g⟩), (fnd_put_other (by decide) f).trans R.components, (fnd_put_other (by decide) f).trans R.variant, (fnd_put_other (by decide) f).trans R.designated, fnd_put_same f, (let ⟨w, g⟩ := R.low; ⟨w, (fnd_put_other (by decide) f).trans g⟩), (let ⟨w, g⟩ := R.high; ⟨w, (fnd_put_other (by decide) f).trans g⟩), (let ⟨w, g⟩ := R.index; ⟨w, (fnd_put_other (by decide) f).trans g⟩), (let ⟨w, g⟩ := R.is_constrained; ⟨w, (fnd_put_other (by decide) f).trans g⟩), (let ⟨w, g⟩ := R.discriminants; ⟨w, (fnd_put_other (by decide) f).trans g⟩), by rw [putL_len f]; exact R.len⟩
theorem TyEs.put_is_constrained (R : TyEs es kind num lc variant desig comp) : TyEs (putL (Str.ofString "is_constrained") hsh key v es) kind num lc variant desig comp := by
  obtain ⟨u0, f⟩ := R.is_constrained
  exact ⟨(fnd_put_other (by decide) f).trans R.kind, (let ⟨w, g⟩ := R.number; ⟨w, (fnd_put_other (by decide) f).trans g⟩), (fnd_put_other (by decide) f).trans R.components, (fnd_put_other (by decide) f).trans R.variant, (fnd_put_other (by decide) f).trans R.designated, (fnd_put_other (by decide) f).trans R.component, (let ⟨w, g⟩ := R.low; ⟨w, (fnd_put_other (by decide) f).trans g⟩), (let ⟨w, g⟩ := R.high; ⟨w, (fnd_put_other (by decide) f).trans g⟩), (let ⟨w, g⟩ := R.index; ⟨w, (fnd_put_other (by decide) f).trans g⟩), ⟨_, fnd_put_same f⟩, (let ⟨w, g⟩ := R.discriminants; ⟨w, (fnd_put_other (by decide) f).trans g⟩), by rw [putL_len f]; exact R.len⟩
theorem TyEs.put_discriminants (R : TyEs es kind num lc variant desig comp) : TyEs (putL (Str.ofString "discriminants") hsh key v es) kind num lc variant desig comp := by
  obtain ⟨u0, f⟩ := R.discriminants
  exact ⟨(fnd_put_other (by decide) f).trans R.kind, (let ⟨w, g⟩ := R.number; ⟨w, (fnd_put_other (by decide) f).trans g⟩), (fnd_put_other (by decide) f).trans R.components, (fnd_put_other (by decide) f).trans R.variant, (fnd_put_other (by decide) f).trans R.designated, (fnd_put_other (by decide) f).trans R.component, (let ⟨w, g⟩ := R.low; ⟨w, (fnd_put_other (by decide) f).trans g⟩), (let ⟨w, g⟩ := R.high; ⟨w, (fnd_put_other (by decide) f).trans g⟩), (let ⟨w, g⟩ := R.index; ⟨w, (fnd_put_other (by decide) f).trans g⟩), (let ⟨w, g⟩ := R.is_constrained; ⟨w, (fnd_put_other (by decide) f).trans g⟩), ⟨_, fnd_put_same f⟩, by rw [putL_len f]; exact R.len⟩
theorem TyEs.put_components (R : TyEs es kind num lc variant desig comp) : TyEs (putL (Str.ofString "components") hsh key v es) kind num v variant desig comp := by
  have f := R.components
  exact ⟨(fnd_put_other (by decide) f).trans R.kind, (let ⟨w, g⟩ := R.number; ⟨w, (fnd_put_other (by decide) f).trans g⟩), fnd_put_same f, (fnd_put_other (by decide) f).trans R.variant, (fnd_put_other (by decide) f).trans R.designated, (fnd_put_other (by decide) f).trans R.component, (let ⟨w, g⟩ := R.low; ⟨w, (fnd_put_other (by decide) f).trans g⟩), (let ⟨w, g⟩ := R.high; ⟨w, (fnd_put_other (by decide) f).trans g⟩), (let ⟨w, g⟩ := R.index; ⟨w, (fnd_put_other (by decide) f).trans g⟩), (let ⟨w, g⟩ := R.is_constrained; ⟨w, (fnd_put_other (by decide) f).trans g⟩), (let ⟨w, g⟩ := R.discriminants; ⟨w, (fnd_put_other (by decide) f).trans g⟩), by rw [putL_len f]; exact R.len⟩
theorem TyEs.put_variant (R : TyEs es kind num lc variant desig comp) : TyEs (putL (Str.ofString "variant") hsh key v es) kind num lc v desig comp := by
  have f := R.variant
  exact ⟨(fnd_put_other (by decide) f).trans R.kind, (let ⟨w, g⟩ := R.number; ⟨w, (fnd_put_other (by decide) f).trans g⟩), (fnd_put_other (by decide) f).trans R.components, fnd_put_same f, (fnd_put_other (by decide) f).trans R.designated, (fnd_put_other (by decide) f).trans R.component, (let ⟨w, g⟩ := R.low; ⟨w, (fnd_put_other (by decide) f).trans g⟩), (let ⟨w, g⟩ := R.high; ⟨w, (fnd_put_other (by decide) f).trans g⟩), (let ⟨w, g⟩ := R.index; ⟨w, (fnd_put_other (by decide) f).trans g⟩), (let ⟨w, g⟩ := R.is_constrained; ⟨w, (fnd_put_other (by decide) f).trans g⟩), (let ⟨w, g⟩ := R.discriminants; ⟨w, (fnd_put_other (by decide) f).trans g⟩), by rw [putL_len f]; exact R.len⟩
theorem TyEs.put_designated (R : TyEs es kind num lc variant desig comp) : TyEs (putL (Str.ofString "designated") hsh key v es) kind num lc variant v comp := by
  have f := R.designated
  exact ⟨(fnd_put_other (by decide) f).trans R.kind, (let ⟨w, g⟩ := R.number; ⟨w, (fnd_put_other (by decide) f).trans g⟩), (fnd_put_other (by decide) f).trans R.components, (fnd_put_other (by decide) f).trans R.variant, fnd_put_same f, (fnd_put_other (by decide) f).trans R.component, (let ⟨w, g⟩ := R.low; ⟨w, (fnd_put_other (by decide) f).trans g⟩), (let ⟨w, g⟩ := R.high; ⟨w, (fnd_put_other (by decide) f).trans g⟩), (let ⟨w, g⟩ := R.index; ⟨w, (fnd_put_other (by decide) f).trans g⟩), (let ⟨w, g⟩ := R.is_constrained; ⟨w, (fnd_put_other (by decide) f).trans g⟩), (let ⟨w, g⟩ := R.discriminants; ⟨w, (fnd_put_other (by decide) f).trans g⟩), by rw [putL_len f]; exact R.len⟩
end
section
variable {es : List DictEntry} {kind : Value} {num : Int} {lc variant desig comp : Value} (R : TyEs es kind num lc variant desig comp)
include R
theorem TyEs.has_number : ∃ u, fnd (Str.ofString "number") es = some u := let ⟨_, h⟩ := R.number; ⟨_, h⟩
theorem TyEs.has_low : ∃ u, fnd (Str.ofString "low") es = some u := R.low
theorem TyEs.has_high : ∃ u, fnd (Str.ofString "high") es = some u := R.high
theorem TyEs.has_index : ∃ u, fnd (Str.ofString "index") es = some u := R.index
theorem TyEs.has_component : ∃ u, fnd (Str.ofString "component") es = some u := ⟨_, R.component⟩
theorem TyEs.has_is_constrained : ∃ u, fnd (Str.ofString "is_constrained") es = some u := R.is_constrained
theorem TyEs.has_discriminants : ∃ u, fnd (Str.ofString "discriminants") es = some u := R.discriminants
theorem TyEs.has_components : ∃ u, fnd (Str.ofString "components") es = some u := ⟨_, R.components⟩
theorem TyEs.has_variant : ∃ u, fnd (Str.ofString "variant") es = some u := ⟨_, R.variant⟩
theorem TyEs.has_designated : ∃ u, fnd (Str.ofString "designated") es = some u := ⟨_, R.designated⟩
end
section
variable {es : List DictEntry} {kind : Value} {num : Int} {lc variant desig comp v : Value} {hsh : Int} {key : Value} {name : Str}
theorem TyEs.has (R : TyEs es kind num lc variant desig comp) (h : name ∈ [Str.ofString "number", Str.ofString "low", Str.ofString "high", Str.ofString "index", Str.ofString "component", Str.ofString "is_constrained", Str.ofString "discriminants", Str.ofString "components", Str.ofString "variant", Str.ofString "designated"]) : ∃ u, fnd name es = some u := by
  simp only [List.mem_cons, List.not_mem_nil, or_false] at h
  rcases h with rfl | rfl | rfl | rfl | rfl | rfl | rfl | rfl | rfl | rfl
  · exact R.has_number
  · exact R.has_low
  · exact R.has_high
  · exact R.has_index
  · exact R.has_component
  · exact R.has_is_constrained
  · exact R.has_discriminants
  · exact R.has_components
  · exact R.has_variant
  · exact R.has_designated
theorem TyEs.put_plain (R : TyEs es kind num lc variant desig comp) (h : name ∈ [Str.ofString "low", Str.ofString "high", Str.ofString "index", Str.ofString "is_constrained", Str.ofString "discriminants"]) : TyEs (putL name hsh key v es) kind num lc variant desig comp := by
  simp only [List.mem_cons, List.not_mem_nil, or_false] at h
  rcases h with rfl | rfl | rfl | rfl | rfl
  · exact R.put_low
  · exact R.put_high
  · exact R.put_index
  · exact R.put_is_constrained
  · exact R.put_discriminants
end
theorem UpdF.upd {d : Addr} {o : Obj} : ∀ {l : List (Addr × Obj)} {g : Obj → List (Addr × Obj)}, UpdF d o l g → ∀ o', Upd d o o' l (g o')
  | _, _, .head h, _ => .head h
  | _, _, .tail h r, o' => .tail h (UpdF.upd r o')
section
variable {w : World} {A : Around} {E : Value → Shared → Prop} {s : Shared} {h₀ : Heap} {L x dx : Addr} {m : Str → Option Value} {news : List (Addr × Obj)} {g : Obj → List (Addr × Obj)} {es : List DictEntry} {n : Nat} {ox : Obj} {name : Str} {v : Value}
variable {k : Value} {num num' : Int} {lc var des cmp lc' var' des' cmp' : Value}
/-- a field of a Type is set -/
theorem set_ty {prog : Program} {Q : Unit → Shared → Prop} (F : Fr h₀ L s.heap m) (X₀ : (hd.heap_1 w.params).In h₀) (N : News h₀ L s.heap news) (I : InstAt s.heap x ox 239 (some (dictOf es n))) (hdx : ox.dict = some dx)
    (hs : findIn (hd.heap_1 w.params) (.ref 239) "__setattr__" = some (some (.builtin "object.__setattr__"))) (hp : plainOver (hd.heap_1 w.params) 239 = true) (ht : takerIn (hd.heap_1 w.params) 239 name = some none) (hh : hasDictIn (hd.heap_1 w.params) 239 = true)
    (R : TyEs es k num lc var des cmp) (hl : ∃ u, fnd name es = some u) (S : ∀ hsh key, TyEs (putL name hsh key v es) k num' lc' var' des' cmp') (U : UpdF dx (dictOf es n) news g)
    (h : ∀ h' es' n', Fr h₀ L h' m → News h₀ L h' (g (dictOf es' n')) → TyEs es' k num' lc' var' des' cmp' → Q () { s with heap := h', toks := s.toks + 2 }) :
    wpAny (model prog w) A (setAttr (.ref x) name v) Q E s := by
  obtain ⟨u, hu⟩ := hl
  refine set_dict F X₀ N I hdx hs hp ht hh (by rw [getL_fnd.mpr hu]; rfl) rfl (UpdF.upd U _) ?_ fun h' F' N' => h h' _ _ F' N' (S _ _)
  rw [putL_len hu]
  exact Nat.le_trans R.len (Nat.le_of_ble_eq_true rfl)
end
/-- a dict that an __init__ fills, its entries unsaid: no key is an object -/
def PlainEs (es : List DictEntry) (j : Nat) : Prop := es.any (·.refKey) = false ∧ es.length ≤ j
theorem plain_nil : PlainEs [] 0 := ⟨rfl, Nat.le_refl _⟩
theorem any_put {name : Str} {hsh : Int} {tk : Tok} {v : Value} : ∀ {es : List DictEntry}, (putL name hsh (.str name tk) v es).any (·.refKey) = true → es.any (·.refKey) = true
  | [], h => by
    exact absurd h (by simp [putL, DictEntry.refKey])
  | e :: r, h => by
    unfold putL at h
    by_cases hk : e.key.isStr name = true
    · rw [if_pos hk] at h
      exact h
    · rw [if_neg hk, List.any_cons] at h
      rw [List.any_cons]
      cases q : e.refKey with
      | true => rfl
      | false =>
        rw [q, Bool.false_or] at h
        exact any_put h
theorem isSome_any {name : Str} {es : List DictEntry} (h : es.any (·.refKey) = false) : (getL name es).isSome = true := by
  unfold getL
  cases es.find? fun x => x.key.isStr name with
  | some e => rfl
  | none => rw [h]; rfl
theorem putL_le {name : Str} {hsh : Int} {key v : Value} : ∀ (es : List DictEntry), (putL name hsh key v es).length ≤ es.length + 1
  | [] => Nat.le_refl _
  | e :: r => by
    unfold putL
    split
    · exact Nat.le_succ _
    · exact Nat.succ_le_succ (putL_le r)
theorem PlainEs.put {es : List DictEntry} {j : Nat} {name : Str} {hsh : Int} {tk : Tok} {v : Value} (R : PlainEs es j) : PlainEs (putL name hsh (.str name tk) v es) (j + 1) := by
  refine ⟨?_, Nat.le_trans (putL_le es) (Nat.succ_le_succ R.2)⟩
  cases q : (putL name hsh (.str name tk) v es).any (·.refKey) with
  | false => rfl
  | true => exact absurd (R.1.symm.trans (any_put q)) (by decide)
theorem isStr_self (name : Str) (tk : Tok) : (Value.str name tk).isStr name = true := by simp [Value.isStr]
theorem fnd_put_eq {name : Str} {hsh : Int} {tk : Tok} {v : Value} : ∀ {es : List DictEntry}, fnd name (putL name hsh (.str name tk) v es) = some v
  | [] => by
    show (if (Value.str name tk).isStr name then some v else none) = some v
    exact if_pos (isStr_self name tk)
  | e :: r => by
    unfold putL
    by_cases hk : e.key.isStr name = true
    · rw [if_pos hk, fnd, if_pos hk]
    · rw [if_neg hk, fnd, if_neg hk]
      exact fnd_put_eq
theorem fnd_put_ne {name name2 : Str} {hsh : Int} {tk : Tok} {v : Value} (ne : name2 ≠ name) : ∀ {es : List DictEntry}, fnd name2 (putL name hsh (.str name tk) v es) = fnd name2 es
  | [] => by
    show (if (Value.str name tk).isStr name2 then some v else none) = none
    exact if_neg fun q => ne (isStr_inj q (isStr_self name tk))
  | e :: r => by
    unfold putL
    by_cases hk : e.key.isStr name = true
    · have hk2 : ¬ e.key.isStr name2 = true := fun q => ne (isStr_inj q hk)
      rw [if_pos hk, fnd, fnd, if_neg hk2, if_neg hk2]
    · rw [if_neg hk, fnd, fnd, fnd_put_ne ne]
section
variable {w : World} {A : Around} {E : Value → Shared → Prop} {s : Shared} {h₀ : Heap} {L x dx C : Addr} {m : Str → Option Value} {news : List (Addr × Obj)} {g : Obj → List (Addr × Obj)} {es : List DictEntry} {n j : Nat} {ox : Obj} {name : Str} {v : Value}
/-- a field is set while an __init__ runs -/
theorem set_abs {prog : Program} {Q : Unit → Shared → Prop} (F : Fr h₀ L s.heap m) (X₀ : (hd.heap_1 w.params).In h₀) (N : News h₀ L s.heap news) (I : InstAt s.heap x ox C (some (dictOf es n))) (hdx : ox.dict = some dx)
    (_hC : (C == 239 || C == 113 || C == 135) = true)
    (hs : findIn (hd.heap_1 w.params) (.ref C) "__setattr__" = some (some (.builtin "object.__setattr__"))) (hp : plainOver (hd.heap_1 w.params) C = true) (ht : takerIn (hd.heap_1 w.params) C name = some none) (hh : hasDictIn (hd.heap_1 w.params) C = true)
    (R : PlainEs es j) (hj : j + 1 ≤ 1000) (U : UpdF dx (dictOf es n) news g)
    (h : ∀ h' es' n', Fr h₀ L h' m → News h₀ L h' (g (dictOf es' n')) → es' = putL name (PyData.keyHash w.params name) (.str name (s.toks + 1)) v es → PlainEs es' (j + 1) → Q () { s with heap := h', toks := s.toks + 2 }) :
    wpAny (model prog w) A (setAttr (.ref x) name v) Q E s :=
  set_dict F X₀ N I hdx hs hp ht hh (isSome_any R.1) rfl (UpdF.upd U _) (Nat.le_trans (R.put (v := v)).2 hj) fun h' F' N' => h h' _ _ F' N' rfl R.put
end

-- part LvType
local macro_rules | `(tactic| k_room) => `(tactic| ((try simp only [depth_ktr, depth_under_make, depth_under_kw, depth_in1, depth_deeper, depth_caller]); decide))

def TypeCall (w : World) (mean : ExcName → Option Value) (mg mb : Str → Option Value) (D U : Nat) : Prop :=
  ∀ (gd : Option (List Code)) (cn : Str) (cs : Scope) (a : Addr) (ccd : Value) (cl : List (Str × Addr)) (outer : List Env) (A₀ : Around) (base h₀ : Heap) (L : Addr) (m : Str → Option Value) (news : List (Addr × Obj)) (s : Shared)
    (kv nv : Value) (Q E : Value → Shared → Prop),
    Below A₀ base outer h₀ → Fr h₀ L s.heap m → (hd.heap_1 w.params).In h₀ → News h₀ L s.heap news → Top hd.view_1 (looseW hd.view_1 [Str.ofString "is_sign"]) mean mg mb h₀ → cs.kind = .function →
    (∀ (x dx lc : Addr) (es : List DictEntry) (n : Nat) h' tk', Fr h₀ L h' m →
      News h₀ L h' ((lc, listOf #[] 0) :: (x, instObj 239 dx) :: (dx, dictOf es n) :: news) → TyEs es kv 0 (.ref lc) .none .none .none → AllLt dx news → AllLt x news → AllLt lc news → @LT.lt Nat _ dx x → @LT.lt Nat _ x lc → @LT.lt Nat _ dx lc →
      Q (.ref x) { s with heap := h', toks := tk' }) →
    wpAny (model PySem.Challenge.rw_xw0005_01.row.prog w) (ktrTop D U gd cn cs L a ccd cl outer) (call (.ref 239) [kv, nv]) Q E s

set_option maxHeartbeats 40000000 in
theorem type_does (w : World) (mean : ExcName → Option Value) (mg mb : Str → Option Value) : TypeCall w mean mg mb 600 6000 := by
  unfold TypeCall
  k_fill
  w_top off
  intro gd cn cs a ccd cl outer A₀ base h₀ L m news s kv nv Q E B F X N T hk hret
  obtain ⟨ck, cnm, cg, cc, cm⟩ := cs
  dsimp only at hk
  subst hk
  k_steps
  all_goals (refine' hret _ _ _ _ _ _ _ ?f ?n ?ty ?a1 ?a2 ?a3 ?b1 ?b2 ?b3; (case f => k_asm); (case n => (refine News.pick3 (by k_asm) (by k_mem) (by k_mem) (by k_mem) ?_; intro p hp; repeat (first | exact hp | apply List.Mem.tail))); (case ty => (exact ⟨rfl, ⟨_, rfl⟩, rfl, rfl, rfl, rfl, ⟨_, rfl⟩, ⟨_, rfl⟩, ⟨_, rfl⟩, ⟨_, rfl⟩, ⟨_, rfl⟩, Nat.le_of_ble_eq_true rfl⟩)); (case a1 => first | tbn_find | exact allLt_of (by assumption)); (case a2 => first | tbn_find | exact tbn_up (by assumption) (by first | tbn_find | exact allLt_of (by assumption))); (case a3 => tbn_find); (case b1 => tbn_below); (case b2 => tbn_below); (case b3 => tbn_below))

theorem type_use {w : World} {mean : ExcName → Option Value} {mg mb : Str → Option Value} {dp un : Nat}
    {gd : Option (List Code)} {cn : Str} {cs : Scope} {a : Addr} {ccd : Value} {cl : List (Str × Addr)} {outer : List Env} {A₀ : Around} {base h₀ : Heap} {L : Addr} {m : Str → Option Value} {news : List (Addr × Obj)} {s : Shared}
    {kv nv : Value} {Q E : Value → Shared → Prop}
    (B : Below A₀ base outer h₀) (F : Fr h₀ L s.heap m) (X : (hd.heap_1 w.params).In h₀) (N : News h₀ L s.heap news) (T : Top hd.view_1 (looseW hd.view_1 [Str.ofString "is_sign"]) mean mg mb h₀) (hk : cs.kind = .function) (hd : dp ≤ 600) (hu : un ≤ 6000)
    (ret : ∀ (x dx lc : Addr) (es : List DictEntry) (n : Nat) h' tk', Fr h₀ L h' m →
      News h₀ L h' ((lc, listOf #[] 0) :: (x, instObj 239 dx) :: (dx, dictOf es n) :: news) → TyEs es kv 0 (.ref lc) .none .none .none → AllLt dx news → AllLt x news → AllLt lc news → @LT.lt Nat _ dx x → @LT.lt Nat _ x lc → @LT.lt Nat _ dx lc →
      Q (.ref x) { s with heap := h', toks := tk' }) :
    wpAny (model PySem.Challenge.rw_xw0005_01.row.prog w) (ktrTop dp un gd cn cs L a ccd cl outer) (call (.ref 239) [kv, nv]) Q E s :=
  wpAny_room (d := 600) (u := 6000) hd hu (type_does w mean mg mb gd cn cs a ccd cl outer A₀ base h₀ L m news s kv nv Q E B F X N T hk ret)

-- part LvWhole
local macro_rules | `(tactic| ktr_enter) => `(tactic| (refine' code_defZ ?k1 ?k2 ?k3 ?k5 ?kA ?kF ?kK ?k6 ?k7 ?k8 ?k9 ?kB ?_ ?c2 ?c3 ?c4 ?c5; (case kA | kF => exact rfl); (case kK => assumption); (case k1 | k2 => k_asm); (case k3 | k5 => k_asm); (case k6 | k7 => k_is); (case k8 => k_room); (case k9 => exact BindsTo.of_eq rfl); (case c5 => decide); (case kB => exact locs rfl); (case c2 | c3 | c4 => exact rfl); k_whole; intro L' h' F' N' B' X' T'; (try dsimp only); (try k_fold)))
local macro_rules | `(tactic| k_steps) => `(tactic| repeat' (first | (k_unfold; (try dsimp only)) | walk1 | (dsimp only; walk1) | (leave1; walk_say "STEP leave1"; try dsimp only) | fail "no step"))
local macro_rules | `(tactic| walk_at "call ref") => `(tactic| (k_here; (with_reducible show wpAny _ _ (call (Value.ref 239) _) _ _ _); k_dflt (refine' type_use ?k1 ?k2 ?k3 ?k4 ?k5 ?kK ?kd ?ku ?_; (case k1 | k2 => k_asm); (case k3 | k4 | k5 => k_asm); (case kK => exact rfl); (case kd | ku => exact Nat.le_of_ble_eq_true rfl); k_whole; intro x' dx' lc' es' n' h' tk' F' N' R' a1' a2' a3' b1' b2' b3'; (try simp only [AllLt, and_true] at a1' a2' a3'); (try k_sweep); (try k_fold))))
local macro_rules | `(tactic| walk_at "setAttr ref") => `(tactic| (k_here; k_dflt (refine' set_ty ?k1 ?k2 ?k3 ?k4 ?k5 ?k6 ?k7 ?k8 ?k9 ?kR ?kl ?kS ?k12 ?_; (case k1 | k2 | k3 => k_asm); (case k4 => k_inst); (case k5 => exact rfl); (case k6 | k7 => k_is); (case k8 | k9 => k_is); (case kR => assumption); (case kl => exact TyEs.has (by assumption) (by decide)); (case kS => (intro _ _; first | exact TyEs.put_plain (by assumption) (by decide) | with_reducible exact TyEs.put_number (by assumption) | with_reducible exact TyEs.put_component (by assumption) | with_reducible exact TyEs.put_components (by assumption) | with_reducible exact TyEs.put_variant (by assumption) | with_reducible exact TyEs.put_designated (by assumption))); (case k12 => k_updF); k_whole; intro h' es' n' F' N' R'; (try dsimp only at N'); (try k_sweep))))

set_option maxHeartbeats 40000000 in
theorem whole_does (w : World) (mean : ExcName → Option Value) (mg mb : Str → Option Value) :
    Does w mean mg mb 500 5000 334 [] (fun _ => True) (fun _ tl r => ∃ a, r = .ref a ∧ FootOn (fun a o => (a, o) ∈ tl) a) := by
  unfold Does
  k_fill
  w_top off
  intro gd cn cs a ccd cl outer A₀ base h₀ L m s Q E B F X T hk _ hret
  refine wpAny_call ?_
  k_dflt ktr_enter
  k_steps
  rename (s.heap.StaysIn _) => st
  exact hret _ _ _ _ _ (by k_asm) (by k_asm) st (by k_asm) ⟨_, rfl, FootOn.whole ⟨_, _, by k_mem, by k_mem⟩ (TyEs.fields (by assumption)) (by k_mem)⟩

/-- the same, when nothing is asked of what is made -/
theorem whole_use {w : World} {mean : ExcName → Option Value} {mg mb : Str → Option Value} {dp un : Nat}
    {gd : Option (List Code)} {cn : Str} {cs : Scope} {a : Addr} {ccd : Value} {cl : List (Str × Addr)} {outer : List Env} {A₀ : Around} {base h₀ : Heap} {L : Addr} {m : Str → Option Value} {news : List (Addr × Obj)} {s : Shared}
    {Q E : Value → Shared → Prop}
    (B : Below A₀ base outer h₀) (F : Fr h₀ L s.heap m) (X : (hd.heap_1 w.params).In h₀) (N : News h₀ L s.heap news) (T : Top hd.view_1 (looseW hd.view_1 [Str.ofString "is_sign"]) mean mg mb h₀)
    (hk : cs.kind = .function) (hd : dp ≤ 500) (hu : un ≤ 5000)
    (ret : ∀ x h' tk', Fr h₀ L h' m → News h₀ L h' news → Q (.ref x) { s with heap := h', toks := tk' }) :
    wpAny (model PySem.Challenge.rw_xw0005_01.row.prog w) (ktrTop dp un gd cn cs L a ccd cl outer) (call (.ref 334) []) Q E s :=
  does_use (whole_does w mean mg mb) B F X N T hk hd hu trivial fun r tl h' tk' F' N' _ ⟨x, e, _⟩ => by
    subst e
    exact ret x h' tk' F' fun p hp => N' p (List.mem_append.mpr (.inr hp))
/-- the same: what is made, and that it is a foot -/
theorem whole_use2 {w : World} {mean : ExcName → Option Value} {mg mb : Str → Option Value} {dp un : Nat}
    {gd : Option (List Code)} {cn : Str} {cs : Scope} {a : Addr} {ccd : Value} {cl : List (Str × Addr)} {outer : List Env} {A₀ : Around} {base h₀ : Heap} {L : Addr} {m : Str → Option Value} {news : List (Addr × Obj)} {s : Shared}
    {Q E : Value → Shared → Prop}
    (B : Below A₀ base outer h₀) (F : Fr h₀ L s.heap m) (X : (hd.heap_1 w.params).In h₀) (N : News h₀ L s.heap news) (T : Top hd.view_1 (looseW hd.view_1 [Str.ofString "is_sign"]) mean mg mb h₀)
    (hk : cs.kind = .function) (hd : dp ≤ 500) (hu : un ≤ 5000)
    (ret : ∀ x tl h' tk', Fr h₀ L h' m → News h₀ L h' (news ++ tl) → FootOn (MadeIn tl) x → Q (.ref x) { s with heap := h', toks := tk' }) :
    wpAny (model PySem.Challenge.rw_xw0005_01.row.prog w) (ktrTop dp un gd cn cs L a ccd cl outer) (call (.ref 334) []) Q E s :=
  does_use (whole_does w mean mg mb) B F X N T hk hd hu trivial fun r tl h' tk' F' N' _ ⟨x, e, hf⟩ => by
    subst e
    exact ret x tl h' tk' F' (fun p hp => N' p ((List.mem_append.mp hp).elim (fun q => List.mem_append_right _ q) fun q => List.mem_append_left _ q)) hf

-- part LvRead
/-- what is read of a Reader's dict -/
structure RdEs (es : List DictEntry) (tl : Addr) (i : Int) : Prop where
  tokens : getL (Str.ofString "tokens") es = some (some (.ref tl))
  spot : ∃ u, getL (Str.ofString "at") es = some (some (.int i u))
  nest : ∃ u, getL (Str.ofString "nest") es = some (some (.int 0 u))
  len : es.length ≤ 100
theorem RdEs.put {es : List DictEntry} {tl : Addr} {i j : Int} {hsh : Int} {key : Value} {u : Tok} (R : RdEs es tl i) : RdEs (putL (Str.ofString "at") hsh key (.int j u) es) tl j := by
  obtain ⟨u1, h1⟩ := R.spot
  obtain ⟨u2, h2⟩ := R.nest
  have f1 := getL_fnd.mp h1
  exact ⟨getL_fnd.mpr ((fnd_put_other (by decide) f1).trans (getL_fnd.mp R.tokens)), ⟨u, getL_fnd.mpr (fnd_put_same f1)⟩, ⟨u2, getL_fnd.mpr ((fnd_put_other (by decide) f1).trans (getL_fnd.mp h2))⟩, by rw [putL_len f1]; exact R.len⟩
def TokOn (P : Addr → Obj → Prop) (x : Addr) (k v : Str) : Prop := ∃ t1 t2 t3, P x (tupObj [.str k t1, .str v t2, .int 1 t3])
theorem TokOn.mono {P P' : Addr → Obj → Prop} (k : ∀ a o, P a o → P' a o) {x : Addr} {a b : Str} : TokOn P x a b → TokOn P' x a b := fun ⟨t1, t2, t3, h⟩ => ⟨t1, t2, t3, k _ _ h⟩
theorem news_apart {h₀ h : Heap} {L a b : Addr} {oa ob : Obj} {news : List (Addr × Obj)} (N : News h₀ L h news) (ha : (a, oa) ∈ news) (hb : (b, ob) ∈ news) (ne : oa.data ≠ ob.data) : @Ne Nat a b := fun e => by
  have h1 := (N _ ha).1
  have h2 := (N _ hb).1
  dsimp only at h1 h2
  rw [show a = b from e, h2] at h1
  exact ne (congrArg Obj.data (Option.some.inj h1)).symm
theorem stays_but {h h' g : Heap} {d : Addr} {led : List (Addr × Obj)} (hg : g = hideAll h (led.map (·.1))) (hl : ∀ p ∈ led, h.get? p.1 = some p.2) (st : g.StaysIn h') (hl' : ∀ p ∈ led, p.1 ≠ d → h'.get? p.1 = some p.2) : ∀ b o, b ≠ d → h.get? b = some o → h'.get? b = some o := fun b o hb e => by
  by_cases hm : b ∈ led.map (·.1)
  · obtain ⟨p, hp, rfl⟩ := List.mem_map.mp hm
    rw [hl p hp] at e
    rw [← Option.some.inj e]
    exact hl' p hp hb
  · exact st b o (hg ▸ hideAll_get _ e hm)

-- part LvSub

/-- two addresses that differ, out of omega's sight -/
structure NeF (a b : Nat) : Prop where
  ne : a ≠ b
def AllNeF (d : Addr) : List (Addr × Obj) → Prop
  | [] => True
  | p :: r => NeF p.1 d ∧ AllNeF d r
theorem allNeF_of {d : Addr} : ∀ {l : List (Addr × Obj)}, AllNe d l → AllNeF d l
  | [], _ => trivial
  | _ :: _, h => ⟨⟨h.1⟩, allNeF_of h.2⟩
theorem news_new {h h' : Heap} {L : Addr} {tl news : List (Addr × Obj)} {h₀ : Heap} {L₀ : Addr} {x : Addr} {o : Obj} (N : News h₀ L₀ h news) (N₂ : News h L h' tl) (hm : (x, o) ∈ tl) : AllNe x news := allNe_of fun q hq e => by
  have h1 := (N q hq).1
  rw [e, (N₂ _ hm).2.2] at h1
  cases h1
set_option maxHeartbeats 40000000 in
theorem sub_does (w : World) (mean : ExcName → Option Value) (mg mb : Str → Option Value) (t : Addr) :
    Does w mean mg mb 520 5200 313 [.ref t] (fun _ => True) (fun _ tl r => ∃ x dx es n, r = .ref x ∧ (x, instObj 260 dx) ∈ tl ∧ (dx, dictOf es n) ∈ tl ∧ getL (Str.ofString "type") es = some (some (.ref t))) := by
  unfold Does
  k_fill
  w_top off
  intro gd cn cs a ccd cl outer A₀ base h₀ L m s Q E B F X T hk _ hret
  refine wpAny_call ?_
  k_dflt ktr_enter
  k_steps
  rename (s.heap.StaysIn _) => st
  exact hret _ _ _ _ _ (by k_asm) (by k_asm) st (by k_asm) ⟨_, _, _, _, rfl, by k_mem, by k_mem, by k_get⟩
section
variable {w : World} {mean : ExcName → Option Value} {mg mb : Str → Option Value} {dp un : Nat} {gd : Option (List Code)} {cn : Str} {cs : Scope} {a : Addr} {ccd : Value} {cl : List (Str × Addr)} {outer : List Env} {A₀ : Around} {base h₀ : Heap} {L : Addr} {m : Str → Option Value} {news : List (Addr × Obj)} {s : Shared} {Q E : Value → Shared → Prop}
theorem sub_use {t : Addr} (B : Below A₀ base outer h₀) (F : Fr h₀ L s.heap m) (X : (hd.heap_1 w.params).In h₀) (N : News h₀ L s.heap news) (Tp : Top hd.view_1 (looseW hd.view_1 [Str.ofString "is_sign"]) mean mg mb h₀) (hk : cs.kind = .function) (hd : dp ≤ 520) (hu : un ≤ 5200)
    (ret : ∀ x dx es n h' tk', Fr h₀ L h' m → News h₀ L h' ((x, instObj 260 dx) :: (dx, dictOf es n) :: news) → getL (Str.ofString "type") es = some (some (.ref t)) → AllNeF x news → AllNeF dx news → NeF x dx → Q (.ref x) { s with heap := h', toks := tk' }) :
    wpAny (model PySem.Challenge.rw_xw0005_01.row.prog w) (ktrTop dp un gd cn cs L a ccd cl outer) (call (.ref 313) [.ref t]) Q E s :=
  wpAny_room (d := 520) (u := 5200) hd hu (sub_does w mean mg mb t gd cn cs a ccd cl outer A₀ base h₀ L m s Q E B F X Tp hk trivial fun r tl h' tk' L' F' N' st N₂ ⟨x, dx, es, n, e, hx, hdx, hg⟩ => by
    subst e
    have NN : News h₀ L h' ((x, instObj 260 dx) :: (dx, dictOf es n) :: news) := List.forall_mem_cons.mpr ⟨N' _ hx, List.forall_mem_cons.mpr ⟨N' _ hdx, fun p hp => ⟨st _ _ (N p hp).1, (N p hp).2⟩⟩⟩
    exact ret x dx es n h' tk' F' NN hg (allNeF_of (news_new N N₂ hx)) (allNeF_of (news_new N N₂ hdx)) ⟨fun e => by
      have h1 := (NN _ (.head _)).1
      have h2 := (NN _ (.tail _ (.head _))).1
      dsimp only at h1 h2
      rw [show x = dx from e, h2] at h1
      cases h1⟩)
end
local macro_rules | `(tactic| ktr_enter) => `(tactic| (refine' code_defW ?k1 ?k2 ?k3 ?k4 ?k5 ?kA ?kF ?kK ?k6 ?k7 ?k8 ?k9 ?kB ?_ ?c2 ?c3 ?c4 ?c5; (case kA | kF => exact rfl); (case kK => assumption); (case k1 | k2 => k_asm); (case k3 | k4 | k5 => k_asm); (case k6 | k7 => k_is); (case k8 => k_room); (case k9 => exact BindsTo.of_eq rfl); (case c5 => decide); (case kB => exact locs rfl); (case c2 | c3 | c4 => exact rfl); k_whole; intro g' L' h' hg' F' N' B' X' T'; (try dsimp only); (try k_fold)))

def NumCall (w : World) (mean : ExcName → Option Value) (mg mb : Str → Option Value) (D U : Nat) : Prop :=
  ∀ (gd : Option (List Code)) (cn : Str) (cs : Scope) (a : Addr) (ccd : Value) (cl : List (Str × Addr)) (outer : List Env) (A₀ : Around) (base h₀ : Heap) (L : Addr) (m : Str → Option Value) (s : Shared)
    (Q E : Value → Shared → Prop),
    Below A₀ base outer h₀ → Fr h₀ L s.heap m → (hd.heap_1 w.params).In h₀ →  Top hd.view_1 (looseW hd.view_1 [Str.ofString "is_sign"]) mean mg mb h₀ → cs.kind = .function →
    ∀ (x dx : Addr) (es : List DictEntry) (n : Nat) (k : Value) (j0 j : Int) (lc v d c : Value) (tj : Tok), News h₀ L s.heap [(x, instObj 239 dx), (dx, dictOf es n)] → TyEs es k j0 lc v d c →
    (∀ h' tk' es' n', Fr h₀ L h' m → h'.get? dx = some (dictOf es' n') → TyEs es' k j lc v d c → (∀ b o, b ≠ dx → s.heap.get? b = some o → h'.get? b = some o) → Q (.ref x) { s with heap := h', toks := tk' }) →
    wpAny (model PySem.Challenge.rw_xw0005_01.row.prog w) (ktrTop D U gd cn cs L a ccd cl outer) (call (.ref 306) [.ref x, .int j tj]) Q E s
set_option maxHeartbeats 40000000 in
theorem num_does (w : World) (mean : ExcName → Option Value) (mg mb : Str → Option Value) : NumCall w mean mg mb 520 5200 := by
  unfold NumCall
  k_fill
  w_top off
  intro gd cn cs a ccd cl outer A₀ base h₀ L m s Q E B F X T hk x dx es n k j0 j lc v d c tj N R hret
  have d1 : @Ne Nat x dx := news_apart N (by k_mem) (by k_mem) (fun e => by cases e)
  refine wpAny_call ?_
  k_dflt ktr_enter
  k_steps
  rename Fr _ _ _ _ => FZ
  rename News _ _ _ _ => NZ
  rename (_ = hideAll _ _) => hg
  rename (Heap.StaysIn _ _) => st
  rename TyEs _ _ _ _ _ _ _ => RZ
  exact hret _ _ _ _ FZ (NZ (dx, _) (.tail _ (.head _))).1 RZ (stays_but hg (fun p hp => (N p hp).1) st (List.forall_mem_cons.mpr ⟨fun _ => (NZ _ (by k_mem)).1, List.forall_mem_cons.mpr ⟨fun ne => absurd rfl ne, fun _ h => nomatch h⟩⟩))
section
variable {w : World} {mean : ExcName → Option Value} {mg mb : Str → Option Value} {dp un : Nat} {gd : Option (List Code)} {cn : Str} {cs : Scope} {a : Addr} {ccd : Value} {cl : List (Str × Addr)} {outer : List Env} {A₀ : Around} {base h₀ : Heap} {L : Addr} {m : Str → Option Value} {news : List (Addr × Obj)} {s : Shared} {Q E : Value → Shared → Prop}
theorem num_use {g : Obj → List (Addr × Obj)} {x dx : Addr} {es : List DictEntry} {n : Nat} {k : Value} {j0 j : Int} {lc v d c : Value} {tj : Tok} (B : Below A₀ base outer h₀) (F : Fr h₀ L s.heap m) (X : (hd.heap_1 w.params).In h₀) (N : News h₀ L s.heap news) (Tp : Top hd.view_1 (looseW hd.view_1 [Str.ofString "is_sign"]) mean mg mb h₀) (hk : cs.kind = .function) (hd : dp ≤ 520) (hu : un ≤ 5200) (hx : (x, instObj 239 dx) ∈ news) (U : UpdF dx (dictOf es n) news g) (R : TyEs es k j0 lc v d c)
    (ret : ∀ h' tk' es' n', Fr h₀ L h' m → News h₀ L h' (g (dictOf es' n')) → TyEs es' k j lc v d c → Q (.ref x) { s with heap := h', toks := tk' }) :
    wpAny (model PySem.Challenge.rw_xw0005_01.row.prog w) (ktrTop dp un gd cn cs L a ccd cl outer) (call (.ref 306) [.ref x, .int j tj]) Q E s := by
  obtain ⟨pre, post, rfl, hg, ha, hb⟩ := U.split
  have hm : (dx, dictOf es n) ∈ pre ++ (dx, dictOf es n) :: post := List.mem_append_right _ (.head _)
  refine wpAny_room (d := 520) (u := 5200) hd hu (num_does w mean mg mb gd cn cs a ccd cl outer A₀ base h₀ L m s Q E B F X Tp hk x dx es n k j0 j lc v d c tj
    (List.forall_mem_cons.mpr ⟨N _ hx, List.forall_mem_cons.mpr ⟨N _ hm, fun _ h => nomatch h⟩⟩) R fun h' tk' es' n' F' hd' R' kk => ret h' tk' es' n' F' (hg _ ▸ fun p hp => ?_) R')
  rcases List.mem_append.mp hp with hp | hp
  · have z := N p (List.mem_append_left _ hp)
    exact ⟨kk _ _ (ha p hp) z.1, z.2⟩
  rcases List.mem_cons.mp hp with rfl | hp
  · exact ⟨hd', (N _ hm).2⟩
  · have z := N p (List.mem_append_right _ (.tail _ hp))
    exact ⟨kk _ _ (hb p hp) z.1, z.2⟩
end
theorem rec_end {h₀ h h' g : Heap} {L L' lc x dx : Addr} {m : Str → Option Value} {led fin fin' : List (Addr × Obj)} {oc ox od : Obj} {P : Prop}
    (hg : g = hideAll h (led.map (·.1))) (N : News h₀ L h led) (st : g.StaysIn h') (F : Fr h₀ L h' m) (N₁ : News h₀ L h' fin) (N₂ : News g L' h' fin') (m1 : (lc, oc) ∈ fin) (m2 : (x, ox) ∈ fin) (m3 : (dx, od) ∈ fin) (q1 : (lc, oc) ∈ fin') (q2 : (x, ox) ∈ fin') (q3 : (dx, od) ∈ fin')
    (hs : ∀ p ∈ led, p ∈ fin) (n1 : ∀ p ∈ led, p.1 ≠ lc) (n2 : ∀ p ∈ led, p.1 ≠ x) (n3 : ∀ p ∈ led, p.1 ≠ dx)
    (k : Fr h₀ L h' m → News h₀ L h' [(lc, oc), (x, ox), (dx, od)] → h.StaysIn h' → h.get? lc = none → h.get? x = none → h.get? dx = none → P) : P :=
  k F (List.forall_mem_cons.mpr ⟨N₁ _ m1, List.forall_mem_cons.mpr ⟨N₁ _ m2, List.forall_mem_cons.mpr ⟨N₁ _ m3, fun _ h => nomatch h⟩⟩⟩) (stays_hidden hg (fun p hp => (N p hp).1) st fun p hp => (N₁ p (hs p hp)).1)
    (new_hidden hg (N₂ _ q1).2.2 n1) (new_hidden hg (N₂ _ q2).2.2 n2) (new_hidden hg (N₂ _ q3).2.2 n3)
def RecCall (w : World) (mean : ExcName → Option Value) (mg mb : Str → Option Value) (D U : Nat) : Prop :=
  ∀ (gd : Option (List Code)) (cn : Str) (cs : Scope) (a : Addr) (ccd : Value) (cl : List (Str × Addr)) (outer : List Env) (A₀ : Around) (base h₀ : Heap) (L : Addr) (m : Str → Option Value) (s : Shared)
    (Q E : Value → Shared → Prop),
    Below A₀ base outer h₀ → Fr h₀ L s.heap m → (hd.heap_1 w.params).In h₀ →  Top hd.view_1 (looseW hd.view_1 [Str.ofString "is_sign"]) mean mg mb h₀ → cs.kind = .function →
    ∀ (l0 lcs : Addr) (c0 cc : Nat) (items : Array Value) (nm : Str) (tn : Tok) (v : Value), News h₀ L s.heap [(l0, listOf #[] c0), (lcs, listOf items cc)] → items.size ≤ 10 →
    (∀ x dx lc es n c tk h' tk', Fr h₀ L h' m → News h₀ L h' [(lc, listOf items c), (x, instObj 239 dx), (dx, dictOf es n)] → TyEs es (.str (Str.ofString "record") tk) 0 (.ref lc) v .none .none → s.heap.StaysIn h' → s.heap.get? lc = none → s.heap.get? x = none → s.heap.get? dx = none → Q (.ref x) { s with heap := h', toks := tk' }) →
    wpAny (model PySem.Challenge.rw_xw0005_01.row.prog w) (ktrTop D U gd cn cs L a ccd cl outer) (call (.ref 292) [.str nm tn, .ref l0, .ref lcs, v]) Q E s
set_option maxHeartbeats 40000000 in
theorem rec_does (w : World) (mean : ExcName → Option Value) (mg mb : Str → Option Value) : RecCall w mean mg mb 510 5100 := by
  unfold RecCall
  k_fill
  w_top off
  intro gd cn cs a ccd cl outer A₀ base h₀ L m s Q E B F X T hk l0 lcs c0 cc items nm tn v N hz hret
  refine wpAny_call ?_
  k_dflt ktr_enter
  k_steps
  rename (_ = hideAll _ _) => hg
  rename (Heap.StaysIn _ _) => st
  exact rec_end hg N st (by k_asm) (by k_asm) (by k_asm) (by k_mem) (by k_mem) (by k_mem) (by k_mem) (by k_mem) (by k_mem) (by repeat (first | (refine List.forall_mem_cons.mpr ⟨by k_mem, ?_⟩) | exact List.forall_mem_nil _)) (by k_all) (by k_all) (by k_all) fun a b c d e f => hret _ _ _ _ _ _ _ _ _ a b (by assumption) c d e f
theorem none_ne {h₀ h : Heap} {L x : Addr} {news : List (Addr × Obj)} (N : News h₀ L h news) (e : h.get? x = none) : AllNe x news := allNe_of fun q hq z => by
  have h1 := (N q hq).1
  rw [z, e] at h1
  cases h1
section
variable {w : World} {mean : ExcName → Option Value} {mg mb : Str → Option Value} {dp un : Nat} {gd : Option (List Code)} {cn : Str} {cs : Scope} {a : Addr} {ccd : Value} {cl : List (Str × Addr)} {outer : List Env} {A₀ : Around} {base h₀ : Heap} {L : Addr} {m : Str → Option Value} {news : List (Addr × Obj)} {s : Shared} {Q E : Value → Shared → Prop}
theorem rec_use {l0 lcs : Addr} {c0 cc : Nat} {items : Array Value} {nm : Str} {tn : Tok} {v : Value} (B : Below A₀ base outer h₀) (F : Fr h₀ L s.heap m) (X : (hd.heap_1 w.params).In h₀) (N : News h₀ L s.heap news) (Tp : Top hd.view_1 (looseW hd.view_1 [Str.ofString "is_sign"]) mean mg mb h₀) (hk : cs.kind = .function) (hd : dp ≤ 510) (hu : un ≤ 5100) (hx : (l0, listOf #[] c0) ∈ news) (hy : (lcs, listOf items cc) ∈ news) (hz : items.size ≤ 10)
    (ret : ∀ x dx lc es n c tk h' tk', Fr h₀ L h' m → News h₀ L h' ((lc, listOf items c) :: (x, instObj 239 dx) :: (dx, dictOf es n) :: news) → TyEs es (.str (Str.ofString "record") tk) 0 (.ref lc) v .none .none → AllNeF dx news → AllNeF x news → AllNeF lc news → NeF dx x → NeF x lc → NeF dx lc → Q (.ref x) { s with heap := h', toks := tk' }) :
    wpAny (model PySem.Challenge.rw_xw0005_01.row.prog w) (ktrTop dp un gd cn cs L a ccd cl outer) (call (.ref 292) [.str nm tn, .ref l0, .ref lcs, v]) Q E s :=
  wpAny_room (d := 510) (u := 5100) hd hu (rec_does w mean mg mb gd cn cs a ccd cl outer A₀ base h₀ L m s Q E B F X Tp hk l0 lcs c0 cc items nm tn v (List.forall_mem_cons.mpr ⟨N _ hx, List.forall_mem_cons.mpr ⟨N _ hy, fun _ h => nomatch h⟩⟩) hz fun x dx lc es n c tk h' tk' F' N' R' st e1 e2 e3 =>
    ret x dx lc es n c tk h' tk' F' (List.forall_mem_cons.mpr ⟨N' _ (.head _), List.forall_mem_cons.mpr ⟨N' _ (.tail _ (.head _)), List.forall_mem_cons.mpr ⟨N' _ (.tail _ (.tail _ (.head _))), fun p hp => ⟨st _ _ (N p hp).1, (N p hp).2⟩⟩⟩⟩) R' (allNeF_of (none_ne N e3)) (allNeF_of (none_ne N e2)) (allNeF_of (none_ne N e1))
      ⟨news_apart N' (.tail _ (.tail _ (.head _))) (.tail _ (.head _)) (fun e => by cases e)⟩ ⟨news_apart N' (.tail _ (.head _)) (.head _) (fun e => by cases e)⟩ ⟨news_apart N' (.tail _ (.tail _ (.head _))) (.head _) (fun e => by cases e)⟩)
end

-- part LvLink
local macro_rules | `(tactic| ktr_enter) => `(tactic| (refine' code_defZ ?k1 ?k2 ?k3 ?k5 ?kA ?kF ?kK ?k6 ?k7 ?k8 ?k9 ?kB ?_ ?c2 ?c3 ?c4 ?c5; (case kA | kF => exact rfl); (case kK => assumption); (case k1 | k2 => k_asm); (case k3 | k5 => k_asm); (case k6 | k7 => k_is); (case k8 => k_room); (case k9 => exact BindsTo.of_eq rfl); (case c5 => decide); (case kB => exact locs rfl); (case c2 | c3 | c4 => exact rfl); k_whole; intro L' h' F' N' B' X' T'; (try dsimp only); (try k_fold)))
local macro_rules | `(tactic| walk_at "call ref") => `(tactic| (k_here; (with_reducible show wpAny _ _ (call (Value.ref 334) _) _ _ _); k_dflt (refine' whole_use ?k1 ?k2 ?k3 ?k4 ?k5 ?kK ?kd ?ku ?_; (case k1 | k2 => k_asm); (case k3 | k4 | k5 => k_asm); (case kK => exact rfl); (case kd | ku => exact Nat.le_of_ble_eq_true rfl); k_whole; intro x' h' tk' F' N'; (try k_sweep); (try k_fold))))
local macro_rules | `(tactic| walk_at "call ref") => `(tactic| (k_here; (with_reducible show wpAny _ _ (call (Value.ref 313) _) _ _ _); k_dflt (refine' sub_use ?k1 ?k2 ?k3 ?k4 ?k5 ?kK ?kd ?ku ?_; (case k1 | k2 => k_asm); (case k3 | k4 | k5 => k_asm); (case kK => exact rfl); (case kd | ku => exact Nat.le_of_ble_eq_true rfl); k_whole; intro x' dx' es' n' h' tk' F' N' g' a1' a2' b1'; (try simp only [AllNeF, and_true] at a1' a2'); (repeat (rename (NeF _ _ ∧ _) => qq'; (obtain ⟨_, _⟩ := qq'))); (try k_sweep); (try k_fold))))
local macro_rules | `(tactic| walk_at "call ref") => `(tactic| (k_here; (with_reducible show wpAny _ _ (call (Value.ref 306) _) _ _ _); k_dflt (refine' num_use ?k1 ?k2 ?k3 ?k4 ?k5 ?kK ?kd ?ku ?kx ?kU ?kR ?_; (case k1 | k2 => k_asm); (case k3 | k4 | k5 => k_asm); (case kK => exact rfl); (case kd | ku => exact Nat.le_of_ble_eq_true rfl); (case kx => k_mem); (case kU => k_updF); (case kR => assumption); k_whole; intro h' tk' es' n' F' N' R'; (try dsimp only at N'); (try k_sweep); (try k_fold))))
local macro_rules | `(tactic| walk_at "call ref") => `(tactic| (k_here; (with_reducible show wpAny _ _ (call (Value.ref 292) _) _ _ _); k_dflt (refine' rec_use ?k1 ?k2 ?k3 ?k4 ?k5 ?kK ?kd ?ku ?kx ?ky ?kz ?_; (case k1 | k2 => k_asm); (case k3 | k4 | k5 => k_asm); (case kK => exact rfl); (case kd | ku => exact Nat.le_of_ble_eq_true rfl); (case kx | ky => k_mem); (case kz => exact Nat.le_of_ble_eq_true rfl); k_whole; intro x' dx' lc' es' n' c' tn' h' tk' F' N' R' a1' a2' a3' b1' b2' b3'; (try simp only [AllNeF, and_true] at a1' a2' a3'); (repeat (rename (NeF _ _ ∧ _) => qq'; (obtain ⟨_, _⟩ := qq'))); (try k_sweep); (try k_fold))))
local macro_rules | `(tactic| k_ne) => `(tactic| (refine neN ?_; (try dsimp only); first | exact NeF.ne (by assumption) | exact Ne.symm (NeF.ne (by assumption)) | omega))

set_option maxHeartbeats 40000000 in
theorem link_does (w : World) (mean : ExcName → Option Value) (mg mb : Str → Option Value) (way num : Int) (t u : Tok) (x y : Addr) (h0 : 0 ≤ way) (h5 : way < 5) :
    Does w mean mg mb 450 4500 341 [.int way t, .int num u, .ref x, .ref y] (fun _ => True) (fun _ tl r => ∃ a, r = .ref a ∧ LinkOn (fun a o => (a, o) ∈ tl) a num x y) := by
  unfold Does
  k_fill
  w_top off
  intro gd cn cs a ccd cl outer A₀ base h₀ L m s Q E B F X T hk _ hret
  refine wpAny_call ?_
  k_dflt ktr_enter
  k_steps
  all_goals (rename (s.heap.StaysIn _) => st; first
    | exact hret _ _ _ _ _ (by k_asm) (by k_asm) st (by k_asm) ⟨_, rfl, .arr ⟨_, _, by k_mem, by k_mem⟩ (TyEs.fields (by assumption)) (by k_mem) ⟨_, ⟨_, _, by k_mem, by k_mem⟩, by first | assumption | k_get⟩⟩
    | exact hret _ _ _ _ _ (by k_asm) (by k_asm) st (by k_asm) ⟨_, rfl, .priv ⟨_, _, by k_mem, by k_mem⟩ (TyEs.fields (by assumption)) (by k_mem) ⟨_, ⟨_, _, by k_mem, by k_mem⟩, by first | assumption | k_get⟩⟩
    | exact hret _ _ _ _ _ (by k_asm) (by k_asm) st (by k_asm) ⟨_, rfl, .var ⟨_, _, by k_mem, by k_mem⟩ (TyEs.fields (by assumption)) (by k_mem) (by k_mem) (by k_mem) (by k_mem) (by k_mem) (by k_mem) (by k_mem) ⟨_, _, _, by k_mem, ⟨_, ⟨_, _, by k_mem, by k_mem⟩, by first | assumption | k_get⟩⟩ ⟨_, _, _, by k_mem, ⟨_, ⟨_, _, by k_mem, by k_mem⟩, by first | assumption | k_get⟩⟩⟩
    | exact hret _ _ _ _ _ (by k_asm) (by k_asm) st (by k_asm) ⟨_, rfl, .both ⟨_, _, by k_mem, by k_mem⟩ (TyEs.fields (by assumption)) (by k_mem) ⟨_, _, _, by k_mem, ⟨_, ⟨_, _, by k_mem, by k_mem⟩, by first | assumption | k_get⟩⟩ ⟨_, _, _, by k_mem, ⟨_, ⟨_, _, by k_mem, by k_mem⟩, by first | assumption | k_get⟩⟩⟩
    | exact hret _ _ _ _ _ (by k_asm) (by k_asm) st (by k_asm) ⟨_, rfl, .one ⟨_, _, by k_mem, by k_mem⟩ (TyEs.fields (by assumption)) (by k_mem) ⟨_, _, _, by k_mem, ⟨_, ⟨_, _, by k_mem, by k_mem⟩, by first | assumption | k_get⟩⟩⟩)

-- part LvRows

set_option maxHeartbeats 40000000 in
theorem rows_none (w : World) (mean : ExcName → Option Value) (mg mb : Str → Option Value) :
    Does w mean mg mb 540 5400 86 [.none] (fun _ => True) (fun _ tl r => ∃ l n, r = .ref l ∧ (l, listOf #[] n) ∈ tl) := by
  unfold Does
  k_fill
  w_top off
  intro gd cn cs a ccd cl outer A₀ base h₀ L m s Q E B F X T hk _ hret
  refine wpAny_call ?_
  k_dflt ktr_enter
  k_steps
  rename (s.heap.StaysIn _) => st
  exact hret _ _ _ _ _ (by k_asm) (by k_asm) st (by k_asm) ⟨_, _, rfl, by k_mem⟩
local macro_rules | `(tactic| ktr_enter) => `(tactic| (refine' code_defW ?k1 ?k2 ?k3 ?k4 ?k5 ?kA ?kF ?kK ?k6 ?k7 ?k8 ?k9 ?kB ?_ ?c2 ?c3 ?c4 ?c5; (case kA | kF => exact rfl); (case kK => assumption); (case k1 | k2 => k_asm); (case k3 | k4 | k5 => k_asm); (case k6 | k7 => k_is); (case k8 => k_room); (case k9 => exact BindsTo.of_eq rfl); (case c5 => decide); (case kB => exact locs rfl); (case c2 | c3 | c4 => exact rfl); k_whole; intro g' L' h' hg' F' N' B' X' T'; (try dsimp only); (try k_fold)))

local macro_rules | `(tactic| walk_at "call ref") => `(tactic| (k_here; (with_reducible show wpAny _ _ (call (Value.ref 86) [Value.none]) _ _ _); k_dflt (refine' does_list (rows_none _ _ _ _) ?k1 ?k2 ?k3 ?k4 ?k5 ?kK ?kd ?ku trivial ?_; (case k1 | k2 => k_asm); (case k3 | k4 | k5 => k_asm); (case kK => exact rfl); (case kd | ku => exact Nat.le_of_ble_eq_true rfl); k_whole; intro l' n' h' tk' F' N' a'; (try simp only [AllNe, and_true] at a'); (try k_sweep))))
local macro_rules | `(tactic| walk_at "exec For Tuple Subscript") => `(tactic| (k_here; (rename Fr _ _ _ _ => lF'); (with_unfolding_all refine' For_turns lF' ?_; k_whole)))
local macro_rules | `(tactic| walk_at "inplaceOp Add ref ref") => `(tactic| (k_here; (with_reducible show wpAny _ _ (inplaceOp _ (Value.ref _) (Value.ref _)) _ _ _); k_dflt (refine' list_iadd ?F ?N ?b ?e ?ne ?U ?d ?z ?y ?_; (case F | N => k_asm); (case b => k_mem); (case U => k_upd); (case e => kl_lit); (case ne => kl_some); (case d => kl_no); (case z | y => kl_room)); kl_rest))

def rowsLed (v vl c1 c2 h1 h2 l1 l2 r1 r2 : Addr) (t1 : Tok) (n1 n2 n3 : Nat) : List (Addr × Obj) := [(v, tupObj [.str (Str.ofString "d") t1, .ref vl]), (vl, listOf #[.ref c1, .ref c2] n1), (c1, tupObj [.ref h1, .ref l1, .none]), (c2, tupObj [.ref h2, .ref l2, .none]), (l1, listOf #[.ref r1] n2), (l2, listOf #[.ref r2] n3)]
set_option maxHeartbeats 40000000 in
theorem rows_var (w : World) (mean : ExcName → Option Value) (mg mb : Str → Option Value) (v vl c1 c2 h1 h2 l1 l2 r1 r2 : Addr) (t1 : Tok) (n1 n2 n3 : Nat) :
    DoesL w mean mg mb 530 5300 86 [.ref v] (rowsLed v vl c1 c2 h1 h2 l1 l2 r1 r2 t1 n1 n2 n3) #[.ref r1, .ref r2] := by
  unfold DoesL rowsLed
  k_fill
  w_top off
  intro gd cn cs a ccd cl outer A₀ base h₀ L m s Q E B F X N T hk hret
  refine wpAny_call ?_
  k_dflt ktr_enter
  k_steps
  rename (_ = hideAll _ _) => hg
  rename (Heap.StaysIn _ _) => st
  exact doesL_end hg N st (by k_asm) (by k_asm) (by k_asm) (by k_mem) (by k_mem) (by repeat (first | (refine List.forall_mem_cons.mpr ⟨by k_mem, ?_⟩) | exact List.forall_mem_nil _)) (by k_all) fun a b c d => hret _ _ _ _ a b c d

-- part LvParts
local macro_rules | `(tactic| walk_at "call ref") => `(tactic| (k_here; (with_reducible show wpAny _ _ (call (Value.ref 86) [Value.none]) _ _ _); k_dflt (refine' does_list (rows_none _ _ _ _) ?k1 ?k2 ?k3 ?k4 ?k5 ?kK ?kd ?ku trivial ?_; (case k1 | k2 => k_asm); (case k3 | k4 | k5 => k_asm); (case kK => exact rfl); (case kd | ku => exact Nat.le_of_ble_eq_true rfl); k_whole; intro l' n' h' tk' F' N' a'; (try simp only [AllNe, and_true] at a'); (try k_sweep); (try dsimp only))))
local macro_rules | `(tactic| walk_at "call ref") => `(tactic| (k_here; (with_reducible show wpAny _ _ (call (Value.ref 86) [Value.ref _]) _ _ _); k_dflt (refine' doesL_use (rows_var _ _ _ _ _ _ _ _ _ _ _ _ _ _ _ _ _ _) ?k1 ?k2 ?k3 ?k4 ?k5 ?kK ?kd ?ku ?hp ?_; (case k1 | k2 => k_asm); (case k3 | k4 | k5 => k_asm); (case kK => exact rfl); (case kd | ku => exact Nat.le_of_ble_eq_true rfl); (case hp => (unfold rowsLed; repeat (first | (refine List.forall_mem_cons.mpr ⟨by k_mem, ?_⟩) | exact List.forall_mem_nil _))); k_whole; intro l' n' h' tk' F' N' a'; (try simp only [AllNe, and_true] at a'); (try k_sweep); (try dsimp only))))
local macro_rules | `(tactic| k_get) => `(tactic| assumption)
local macro_rules | `(tactic| walk_at "subscriptTail") => `(tactic| (k_here; (with_reducible show wpAny _ _ (subscriptTail _ _ (Value.ref _) (Value.int _ _)) _ _ _); k_dflt (refine' item_tupleT ?t ?a ?b ?c ?d ?_; (case t => exact News.isTup (by k_asm) (by k_mem)); (case a | b => decide); (case c | d => rfl); k_whole)))
local macro_rules | `(tactic| walk_at "CompEnd") => `(tactic| (refine' compEnd_same ?f ?n ?o ?r ?_; (case f | n => with_reducible assumption); (case o => (simp only [LCg.Off3, and_true]; first | with_reducible assumption | lcg_off)); (case r => lcg_src); k_whole))

set_option maxHeartbeats 40000000 in
theorem parts_arr (w : World) (mean : ExcName → Option Value) (mg mb : Str → Option Value) (x dx : Addr) (lc sub ds last : Addr) (n n1 n2 : Nat) (es es2 : List DictEntry) (num : Int) (hf : Fields es (Str.ofString "array") num lc .none .none (.ref sub)) (ht : getL (Str.ofString "type") es2 = some (some (.ref last))) :
    DoesL w mean mg mb 500 5000 91 [.ref x] [(x, instObj 239 dx), (dx, dictOf es n), (lc, listOf #[] n1), (sub, instObj 260 ds), (ds, dictOf es2 n2)] #[.ref last] := by
  unfold DoesL
  k_fill
  w_top off
  intro gd cn cs a ccd cl outer A₀ base h₀ L m s Q E B F X N T hk hret
  obtain ⟨⟨tk1, hf1⟩, ⟨tk2, hf2⟩, hf3, hf4, hf5, hf6⟩ := hf
  refine wpAny_call ?_
  k_dflt ktr_enter
  k_steps
  rename (_ = hideAll _ _) => hg
  rename (Heap.StaysIn _ _) => st
  rename (_ ∧ _) => off
  exact doesL_end hg N st (by k_asm) (by k_asm) (by k_asm) (by k_mem) (by k_mem) (by repeat (first | (refine List.forall_mem_cons.mpr ⟨by k_mem, ?_⟩) | exact List.forall_mem_nil _)) (by refine allNe_all ?_; simp only [AllNe, and_true]; repeat (first | exact off | replace off := And.right off)) fun a b c d => hret _ _ _ _ a b c d

set_option maxHeartbeats 40000000 in
theorem parts_one (w : World) (mean : ExcName → Option Value) (mg mb : Str → Option Value) (x dx : Addr) (lc r1 sub ds last : Addr) (n n1 n2 : Nat) (es es2 : List DictEntry) (num : Int) (nm : Str) (tk : Tok) (hf : Fields es (Str.ofString "record") num lc .none .none .none) (ht : getL (Str.ofString "type") es2 = some (some (.ref last))) :
    DoesL w mean mg mb 500 5000 91 [.ref x] [(x, instObj 239 dx), (dx, dictOf es n), (lc, listOf #[.ref r1] n1), (r1, tupObj [.str nm tk, .ref sub, .none]), (sub, instObj 260 ds), (ds, dictOf es2 n2)] #[.ref last] := by
  unfold DoesL
  k_fill
  w_top off
  intro gd cn cs a ccd cl outer A₀ base h₀ L m s Q E B F X N T hk hret
  obtain ⟨⟨tk1, hf1⟩, ⟨tk2, hf2⟩, hf3, hf4, hf5, hf6⟩ := hf
  refine wpAny_call ?_
  k_dflt ktr_enter
  k_steps
  rename (_ = hideAll _ _) => hg
  rename (Heap.StaysIn _ _) => st
  rename (_ ∧ _) => off
  exact doesL_end hg N st (by k_asm) (by k_asm) (by k_asm) (by k_mem) (by k_mem) (by repeat (first | (refine List.forall_mem_cons.mpr ⟨by k_mem, ?_⟩) | exact List.forall_mem_nil _)) (by refine allNe_all ?_; simp only [AllNe, and_true]; repeat (first | exact off | replace off := And.right off)) fun a b c d => hret _ _ _ _ a b c d

set_option maxHeartbeats 40000000 in
theorem parts_both (w : World) (mean : ExcName → Option Value) (mg mb : Str → Option Value) (x dx : Addr) (lc r1 sub ds last r2 sub2 ds2 before : Addr) (n n1 n2 n3 : Nat) (es es2 es3 : List DictEntry) (num : Int) (nm nm2 : Str) (tk tk2 : Tok) (hf : Fields es (Str.ofString "record") num lc .none .none .none) (ht : getL (Str.ofString "type") es2 = some (some (.ref last))) (ht2 : getL (Str.ofString "type") es3 = some (some (.ref before))) :
    DoesL w mean mg mb 500 5000 91 [.ref x] [(x, instObj 239 dx), (dx, dictOf es n), (lc, listOf #[.ref r1, .ref r2] n1), (r1, tupObj [.str nm tk, .ref sub, .none]), (sub, instObj 260 ds), (ds, dictOf es2 n2), (r2, tupObj [.str nm2 tk2, .ref sub2, .none]), (sub2, instObj 260 ds2), (ds2, dictOf es3 n3)] #[.ref last, .ref before] := by
  unfold DoesL
  k_fill
  w_top off
  intro gd cn cs a ccd cl outer A₀ base h₀ L m s Q E B F X N T hk hret
  obtain ⟨⟨tk1, hf1⟩, ⟨tk2, hf2⟩, hf3, hf4, hf5, hf6⟩ := hf
  refine wpAny_call ?_
  k_dflt ktr_enter
  k_steps
  rename (_ = hideAll _ _) => hg
  rename (Heap.StaysIn _ _) => st
  rename (_ ∧ _) => off
  exact doesL_end hg N st (by k_asm) (by k_asm) (by k_asm) (by k_mem) (by k_mem) (by repeat (first | (refine List.forall_mem_cons.mpr ⟨by k_mem, ?_⟩) | exact List.forall_mem_nil _)) (by refine allNe_all ?_; simp only [AllNe, and_true]; repeat (first | exact off | replace off := And.right off)) fun a b c d => hret _ _ _ _ a b c d

set_option maxHeartbeats 40000000 in
theorem parts_var (w : World) (mean : ExcName → Option Value) (mg mb : Str → Option Value) (x dx : Addr) (lc r1 sub ds last r2 sub2 ds2 before v vl c1 c2 h1 h2 l1 l2 : Addr) (n n1 n2 n3 n4 n5 n6 : Nat) (es es2 es3 : List DictEntry) (num : Int) (nm nm2 : Str) (tk tk2 t1 : Tok) (hf : Fields es (Str.ofString "record") num lc (.ref v) .none .none) (ht : getL (Str.ofString "type") es2 = some (some (.ref last))) (ht2 : getL (Str.ofString "type") es3 = some (some (.ref before))) :
    DoesL w mean mg mb 500 5000 91 [.ref x] ([(x, instObj 239 dx), (dx, dictOf es n), (lc, listOf #[] n1), (r1, tupObj [.str nm tk, .ref sub, .none]), (sub, instObj 260 ds), (ds, dictOf es2 n2), (r2, tupObj [.str nm2 tk2, .ref sub2, .none]), (sub2, instObj 260 ds2), (ds2, dictOf es3 n3), (v, tupObj [.str (Str.ofString "d") t1, .ref vl]), (vl, listOf #[.ref c1, .ref c2] n4), (c1, tupObj [.ref h1, .ref l1, .none]), (c2, tupObj [.ref h2, .ref l2, .none]), (l1, listOf #[.ref r1] n5), (l2, listOf #[.ref r2] n6)]) #[.ref last, .ref before] := by
  unfold DoesL
  k_fill
  w_top off
  intro gd cn cs a ccd cl outer A₀ base h₀ L m s Q E B F X N T hk hret
  obtain ⟨⟨tk1, hf1⟩, ⟨tk2, hf2⟩, hf3, hf4, hf5, hf6⟩ := hf
  refine wpAny_call ?_
  k_dflt ktr_enter
  k_steps
  rename (_ = hideAll _ _) => hg
  rename (Heap.StaysIn _ _) => st
  rename (_ ∧ _) => off
  exact doesL_end hg N st (by k_asm) (by k_asm) (by k_asm) (by k_mem) (by k_mem) (by repeat (first | (refine List.forall_mem_cons.mpr ⟨by k_mem, ?_⟩) | exact List.forall_mem_nil _)) (by refine allNe_all ?_; simp only [AllNe, and_true]; repeat (first | exact off | replace off := And.right off)) fun a b c d => hret _ _ _ _ a b c d

set_option maxHeartbeats 40000000 in
theorem parts_access (w : World) (mean : ExcName → Option Value) (mg mb : Str → Option Value) (x dx : Addr) (lc sub : Addr) (n n1 : Nat) (es : List DictEntry) (num : Int) (hf : Fields es (Str.ofString "access") num lc .none (.ref sub) .none) :
    DoesL w mean mg mb 500 5000 91 [.ref x] [(x, instObj 239 dx), (dx, dictOf es n), (lc, listOf #[] n1)] #[] := by
  unfold DoesL
  k_fill
  w_top off
  intro gd cn cs a ccd cl outer A₀ base h₀ L m s Q E B F X N T hk hret
  obtain ⟨⟨tk1, hf1⟩, ⟨tk2, hf2⟩, hf3, hf4, hf5, hf6⟩ := hf
  refine wpAny_call ?_
  k_dflt ktr_enter
  k_steps
  rename (_ = hideAll _ _) => hg
  rename (Heap.StaysIn _ _) => st
  rename (_ ∧ _) => off
  exact doesL_end hg N st (by k_asm) (by k_asm) (by k_asm) (by k_mem) (by k_mem) (by repeat (first | (refine List.forall_mem_cons.mpr ⟨by k_mem, ?_⟩) | exact List.forall_mem_nil _)) (by refine allNe_all ?_; simp only [AllNe, and_true]; repeat (first | exact off | replace off := And.right off)) fun a b c d => hret _ _ _ _ a b c d

set_option maxHeartbeats 40000000 in
theorem parts_int (w : World) (mean : ExcName → Option Value) (mg mb : Str → Option Value) (x dx : Addr) (lc : Addr) (n n1 : Nat) (es : List DictEntry) (num : Int) (hf : Fields es (Str.ofString "int") num lc .none .none .none) :
    DoesL w mean mg mb 500 5000 91 [.ref x] [(x, instObj 239 dx), (dx, dictOf es n), (lc, listOf #[] n1)] #[] := by
  unfold DoesL
  k_fill
  w_top off
  intro gd cn cs a ccd cl outer A₀ base h₀ L m s Q E B F X N T hk hret
  obtain ⟨⟨tk1, hf1⟩, ⟨tk2, hf2⟩, hf3, hf4, hf5, hf6⟩ := hf
  refine wpAny_call ?_
  k_dflt ktr_enter
  k_steps
  rename (_ = hideAll _ _) => hg
  rename (Heap.StaysIn _ _) => st
  rename (_ ∧ _) => off
  exact doesL_end hg N st (by k_asm) (by k_asm) (by k_asm) (by k_mem) (by k_mem) (by repeat (first | (refine List.forall_mem_cons.mpr ⟨by k_mem, ?_⟩) | exact List.forall_mem_nil _)) (by refine allNe_all ?_; simp only [AllNe, and_true]; repeat (first | exact off | replace off := And.right off)) fun a b c d => hret _ _ _ _ a b c d

set_option maxHeartbeats 40000000 in
theorem parts_priv (w : World) (mean : ExcName → Option Value) (mg mb : Str → Option Value) (x dx : Addr) (lc sub ds last : Addr) (n n1 n2 : Nat) (es es2 : List DictEntry) (num : Int) (hf : Fields es (Str.ofString "private") num lc .none (.ref sub) .none) (ht : getL (Str.ofString "type") es2 = some (some (.ref last))) :
    DoesL w mean mg mb 500 5000 91 [.ref x] [(x, instObj 239 dx), (dx, dictOf es n), (lc, listOf #[] n1), (sub, instObj 260 ds), (ds, dictOf es2 n2)] #[.ref last] := by
  unfold DoesL
  k_fill
  w_top off
  intro gd cn cs a ccd cl outer A₀ base h₀ L m s Q E B F X N T hk hret
  obtain ⟨⟨tk1, hf1⟩, ⟨tk2, hf2⟩, hf3, hf4, hf5, hf6⟩ := hf
  refine wpAny_call ?_
  k_dflt ktr_enter
  k_steps
  rename (_ = hideAll _ _) => hg
  rename (Heap.StaysIn _ _) => st
  rename (_ ∧ _) => off
  exact doesL_end hg N st (by k_asm) (by k_asm) (by k_asm) (by k_mem) (by k_mem) (by repeat (first | (refine List.forall_mem_cons.mpr ⟨by k_mem, ?_⟩) | exact List.forall_mem_nil _)) (by refine allNe_all ?_; simp only [AllNe, and_true]; repeat (first | exact off | replace off := And.right off)) fun a b c d => hret _ _ _ _ a b c d

section
variable {w : World} {mean : ExcName → Option Value} {mg mb : Str → Option Value} {dp un : Nat} {gd : Option (List Code)} {cn : Str} {cs : Scope} {a : Addr} {ccd : Value} {cl : List (Str × Addr)} {outer : List Env} {A₀ : Around} {base h₀ : Heap} {L : Addr} {m : Str → Option Value} {news : List (Addr × Obj)} {s : Shared} {Q E : Value → Shared → Prop}
/-- part_types of a link: the ones that it holds -/
theorem parts_link {x : Addr} {num : Int} {last before : Addr} (K : LinkOn (MadeIn news) x num last before)
    (B : Below A₀ base outer h₀) (F : Fr h₀ L s.heap m) (X : (hd.heap_1 w.params).In h₀) (N : News h₀ L s.heap news) (T : Top hd.view_1 (looseW hd.view_1 [Str.ofString "is_sign"]) mean mg mb h₀)
    (hk : cs.kind = .function) (hd : dp ≤ 500) (hu : un ≤ 5000)
    (ret : ∀ items l n h' tk', items = #[.ref last] ∨ items = #[.ref last, .ref before] → Fr h₀ L h' m → News h₀ L h' ((l, listOf items n) :: news) → AllNe l news → Q (.ref l) { s with heap := h', toks := tk' }) :
    wpAny (model PySem.Challenge.rw_xw0005_01.row.prog w) (ktrTop dp un gd cn cs L a ccd cl outer) (call (.ref 91) [.ref x]) Q E s := by
  cases K with
  | arr i f c d =>
    obtain ⟨dx, n, i1, i2⟩ := i
    obtain ⟨es2, ⟨ds, n2, s1, s2⟩, ht⟩ := d
    exact doesL_use (parts_arr w mean mg mb x dx _ _ ds _ n _ n2 _ _ _ f ht) B F X N T hk hd hu (by repeat (first | (refine List.forall_mem_cons.mpr ⟨by assumption, ?_⟩) | exact List.forall_mem_nil _)) fun l n h' tk' F' N' ne => ret _ l n h' tk' (.inl rfl) F' N' ne
  | priv i f c d =>
    obtain ⟨dx, n, i1, i2⟩ := i
    obtain ⟨es2, ⟨ds, n2, s1, s2⟩, ht⟩ := d
    exact doesL_use (parts_priv w mean mg mb x dx _ _ ds _ n _ n2 _ _ _ f ht) B F X N T hk hd hu (by repeat (first | (refine List.forall_mem_cons.mpr ⟨by assumption, ?_⟩) | exact List.forall_mem_nil _)) fun l n h' tk' F' N' ne => ret _ l n h' tk' (.inl rfl) F' N' ne
  | one i f c d =>
    obtain ⟨dx, n, i1, i2⟩ := i
    obtain ⟨nm, tk, sub, r1, es2, ⟨ds, n2, s1, s2⟩, ht⟩ := d
    exact doesL_use (parts_one w mean mg mb x dx _ _ sub ds _ n _ n2 _ _ _ nm tk f ht) B F X N T hk hd hu (by repeat (first | (refine List.forall_mem_cons.mpr ⟨by assumption, ?_⟩) | exact List.forall_mem_nil _)) fun l n h' tk' F' N' ne => ret _ l n h' tk' (.inl rfl) F' N' ne
  | both i f c d e =>
    obtain ⟨dx, n, i1, i2⟩ := i
    obtain ⟨nm, tk, sub, r1, es2, ⟨ds, n2, s1, s2⟩, ht⟩ := d
    obtain ⟨nm2, tk2, sub2, r2, es3, ⟨ds2, n3, s3, s4⟩, ht2⟩ := e
    exact doesL_use (parts_both w mean mg mb x dx _ _ sub ds _ _ sub2 ds2 _ n _ n2 n3 _ _ _ _ nm nm2 tk tk2 f ht ht2) B F X N T hk hd hu (by repeat (first | (refine List.forall_mem_cons.mpr ⟨by assumption, ?_⟩) | exact List.forall_mem_nil _)) fun l n h' tk' F' N' ne => ret _ l n h' tk' (.inr rfl) F' N' ne
  | var i f c d e g j k q u v =>
    obtain ⟨dx, n, i1, i2⟩ := i
    obtain ⟨nm, tk, sub, r1, es2, ⟨ds, n2, s1, s2⟩, ht⟩ := u
    obtain ⟨nm2, tk2, sub2, r2, es3, ⟨ds2, n3, s3, s4⟩, ht2⟩ := v
    exact doesL_use (parts_var w mean mg mb x dx _ _ sub ds _ _ sub2 ds2 _ _ _ _ _ _ _ _ _ n _ n2 n3 _ _ _ _ _ _ _ nm nm2 tk tk2 _ f ht ht2) B F X N T hk hd hu (by repeat (first | (refine List.forall_mem_cons.mpr ⟨by assumption, ?_⟩) | exact List.forall_mem_nil _)) fun l n h' tk' F' N' ne => ret _ l n h' tk' (.inr rfl) F' N' ne
/-- part_types of the foot: none -/
theorem parts_foot {x : Addr} (K : FootOn (MadeIn news) x)
    (B : Below A₀ base outer h₀) (F : Fr h₀ L s.heap m) (X : (hd.heap_1 w.params).In h₀) (N : News h₀ L s.heap news) (T : Top hd.view_1 (looseW hd.view_1 [Str.ofString "is_sign"]) mean mg mb h₀)
    (hk : cs.kind = .function) (hd : dp ≤ 500) (hu : un ≤ 5000)
    (ret : ∀ l n h' tk', Fr h₀ L h' m → News h₀ L h' ((l, listOf #[] n) :: news) → AllNe l news → Q (.ref l) { s with heap := h', toks := tk' }) :
    wpAny (model PySem.Challenge.rw_xw0005_01.row.prog w) (ktrTop dp un gd cn cs L a ccd cl outer) (call (.ref 91) [.ref x]) Q E s := by
  cases K with
  | whole i f c =>
    obtain ⟨dx, n, i1, i2⟩ := i
    exact doesL_use (parts_int w mean mg mb x dx _ n _ _ _ f) B F X N T hk hd hu (by repeat (first | (refine List.forall_mem_cons.mpr ⟨by assumption, ?_⟩) | exact List.forall_mem_nil _)) ret
  | access i f c =>
    obtain ⟨dx, n, i1, i2⟩ := i
    exact doesL_use (parts_access w mean mg mb x dx _ _ n _ _ _ f) B F X N T hk hd hu (by repeat (first | (refine List.forall_mem_cons.mpr ⟨by assumption, ?_⟩) | exact List.forall_mem_nil _)) ret
end

-- part LvExc

section
variable {prog : Program} {w : World} {A : Around} {E : Value → Shared → Prop} {R : Result → Shared → Prop} {h : Heap} {g : Array GenState} {d : Drawn} {t : Nat} {os : OsState}
variable {nm q : Str} {C N : Addr} {bs bm bmB : List Value} {hdct : Bool} {sn : List Str} {sub : List Value} {ab : Bool} {col : Option Bool} {dd : Option Addr} {k0 k1 k2 k3 k5 : Option Value} {B newId initId : String}

/-- what the making of an own exception asks of the classes above it -/
structure Above (B : String) (bm : List Value) : Prop where
  hasB : bm.contains (.type B) = true
  noAttr : bm.contains (.type "AttributeError") = false
  noName : bm.contains (.type "NameError") = false

theorem exc_check_new (F : ExcBaseFacts B newId initId bmB) (U : Above B bm) {rest : List Value} {Q : Unit → Shared → Prop} (hC : h.get? C = some (excClassObj nm q C N bs bm hdct sn sub ab col dd k0 k1 k2 k3 k5 newId))
    (hq : Q () ⟨h, g, d, t, os⟩) : wpAny (model prog w) A (checkBuiltinCall newId ⟨.ref C :: rest, []⟩) Q E ⟨h, g, d, t, os⟩ := by
  have hB : (Value.ref C :: bm).contains (.type B) = true := by rw [List.contains_cons, U.hasB, Bool.or_true]
  have hs := F.noStar
  simp only [checkBuiltinCall, F.newKind, F.newSplit, F.newRow]
  repeat (first | refine wpAny_loadPart_at hC ?_ | (refine wpAny_isSubtype_exc hC ?_; rw [hB]) | refine wpAny_staticBase_exc hC ?_ | refine wpAny_madeBy_exc hC ?_ | simp only [bne_self_eq_false, Bool.false_eq_true, if_false] | wp_step)
  exact hq

theorem exc_new (F : ExcBaseFacts B newId initId bmB) (U : Above B bm) {rest : List Value} (hC : h.get? C = some (excClassObj nm q C N bs bm hdct sn sub ab col dd k0 k1 k2 k3 k5 newId))
    (hq : R (.ok (.ret (.ref (h.objs.size + 1)))) ⟨(h.push (tupObj rest)).push { cls := .ref C, data := .fields #[.ref h.objs.size, .none, .none, .none, .bool false, .none] }, g, d, t, os⟩) (hrest : rest.length ≤ sizeLine) :
    codeAny (model prog w) A (.builtin newId ⟨.ref C :: rest, []⟩) R ⟨h, g, d, t, os⟩ := by
  have he := F.ends
  have h1 : (Value.ref C :: bm).contains (.type B) = true := by rw [List.contains_cons, U.hasB, Bool.or_true]
  have h2 : (Value.ref C :: bm).contains (.type "AttributeError") = false := by rw [List.contains_cons, U.noAttr]; rfl
  have h3 : (Value.ref C :: bm).contains (.type "NameError") = false := by rw [List.contains_cons, U.noName]; rfl
  refine codeAny_builtinAt F.entry ?_
  unfold Builtin.«BaseException.__new__»
  refine PySem.wpAt_bind ?_
  show PySem.wpAt _ _ _ (stack >>= _) _ _ _
  refine PySem.wpAt_bind (PySem.wpAt_stack fun p below => PySem.wpAt_of_wpAny ?_)
  wp_walk
  refine PySem.wpAt_of_wpAny ?_
  rw [F.owner]
  repeat (first | with_reducible refine wpAny_madeHere_exc F.canon hC ?_ | with_reducible refine wpAny_loadPart_at hC ?_ | (with_reducible refine wpAny_isSubtype_exc hC ?_; first | rw [h1] | rw [h2] | rw [h3]) | wp_step)
  show R _ _
  rw [Heap.size_push]
  exact hq

/-- an own exception class with an __init__ of its own is called: the object is laid, then __init__ runs -/
theorem exc_type_call (F : ExcBaseFacts B newId initId bmB) (U : Above B bm) {mN : Str → Option Value} {rest : List Value} {fI : Addr} {oI : Obj} {Q : Fin → Shared → Prop}
    (hC : h.get? C = some (excClassObj nm q C N bs bm hdct sn sub ab col dd k0 k1 k2 k3 k5 newId)) (hn : h.Ns N mN) (hi : mN "__init__" = some (.ref fI))
    (hfI : h.get? fI = some oI) (hfc : oI.cls = .type "function")
    (hq : ∀ h' e, Heap.MadeExcOf h h' e (.ref C) rest →
      wpAny (model prog w) A (call (.ref fI) (.ref e :: rest)) (fun r s' => r = .none ∧ Q (.done (.ret (.ref e))) s') E ⟨h', g, d, t, os⟩) (hrest : rest.length ≤ sizeLine) :
    wpAny (model prog w) A (Builtin.«type.__call__» ⟨.ref C :: rest, []⟩) Q E ⟨h, g, d, t, os⟩ := by
  repeat (first | with_reducible refine wpAny_loadPart_at hC ?_ | with_reducible refine wpAny_madeBy_exc hC ?_ | wp_step)
  refine codeAny_call_builtin_code (Code.quiet_builtin _ F.quiet) (exc_check_new F U hC ?_)
  refine exc_new F U hC ?_ hrest
  show wpAny _ _ _ _ _ _
  have up : ∀ b o, h.get? b = some o → ((h.push (tupObj rest)).push { cls := .ref C, data := .fields #[.ref h.objs.size, .none, .none, .none, .bool false, .none] }).get? b = some o :=
    fun b o e => Heap.get?_push_of_some _ (Heap.get?_push_of_some _ e)
  have hC₁ := up _ _ hC
  have hfI₁ := up _ _ hfI
  have hn₁ : ((h.push (tupObj rest)).push { cls := .ref C, data := .fields #[.ref h.objs.size, .none, .none, .none, .bool false, .none] }).Ns N mN :=
    let ⟨o, es, ep, e, r⟩ := hn; ⟨o, es, ep, up _ _ e, r⟩
  have hget : ((h.push (tupObj rest)).push { cls := .ref C, data := .fields #[.ref h.objs.size, .none, .none, .none, .bool false, .none] }).get? (h.objs.size + 1) = some
      { cls := .ref C, data := .fields #[.ref h.objs.size, .none, .none, .none, .bool false, .none] } := by heap_get
  have hcC : (Value.ref C :: bm).contains (.ref C) = true := by simp
  unfold isInstance
  repeat (first | with_reducible refine wpAny_loadPart_at hget ?_ | (with_reducible refine wpAny_isSubtype_exc hC₁ ?_; rw [hcC]) | wp_step)
  show wpAny _ _ (typeLookup (.ref C) _) _ _ _
  rw [typeLookup_eq]
  refine wpAny_bind (wpAny_mroOf_exc hC₁ ?_)
  rw [lookupAlong_cons]
  refine wpAny_bind (wpAny_classOwn_exc hC₁ hn₁ ?_)
  rw [hi]
  refine wpAny_pure ?_
  refine wpAny_holding (wpAny_bind ?_)
  unfold bindSpecial
  refine wpAny_bind (wpAny_typeOf (T := "function") ⟨_, hfI₁, hfc⟩ ?_)
  rw [if_pos (by decide)]
  refine wpAny_pure (wpAny_bind (wpAny_mono (hq _ (h.objs.size + 1) ⟨up, Heap.get?_none_of_le (Nat.le_succ _), h.objs.size, hget, Heap.get?_none_of_le (Nat.le_refl _), ?_⟩) (fun r s' hr => ?_) fun _ _ x => x))
  · exact Heap.get?_push_of_some _ (Heap.get?_push_at rfl rfl)
  · obtain ⟨rfl, hQ⟩ := hr
    wp_walk
    exact hQ

theorem exc_call (F : ExcBaseFacts B newId initId bmB) (U : Above B bm) {mN : Str → Option Value} {rest : List Value} {fI : Addr} {oI : Obj} {Q : Value → Shared → Prop}
    (hC : h.get? C = some (excClassObj nm q C N bs bm hdct sn sub ab col dd k0 k1 k2 k3 k5 newId)) (hn : h.Ns N mN) (hi : mN "__init__" = some (.ref fI))
    (hfI : h.get? fI = some oI) (hfc : oI.cls = .type "function")
    (hq : ∀ h' e, Heap.MadeExcOf h h' e (.ref C) rest →
      wpAny (model prog w) (A.under (.builtin "type.__call__" ⟨.ref C :: rest, []⟩)) (call (.ref fI) (.ref e :: rest)) (fun r s' => r = .none ∧ Q (.ref e) s') E ⟨h', g, d, t, os⟩) (hrest : rest.length ≤ sizeLine) :
    wpAny (model prog w) A (call (.ref C) rest) Q E ⟨h, g, d, t, os⟩ := by
  have f1 := tc_lookup
  have f2 := tc_bind (.ref C)
  have hT : (⟨h, g, d, t, os⟩ : Shared).TypeIs (.ref C) "type" := ⟨_, hC, rfl⟩
  refine wpAny_call (codeAny_of_tree ?_)
  show wpAny _ _ (callAny (.ref C) _) _ _ _
  repeat (any_goals (first | assumption | with_reducible refine wpAny_loadPart_at hC ?_ | wp_step))
  refine ⟨rfl, ?_⟩
  refine codeAny_call_builtin_at (Code.quiet_builtin _ (by decide +kernel)) entry_typeCall (wpAny_check_type_call_sub hC (exc_type_call F U hC hn hi hfI hfc (fun h' e hm => ?_) hrest))
  exact hq h' e hm
end

abbrev excObj (C : Addr) (dd : Option Addr) (t : Addr) : Obj := { cls := .ref C, dict := dd, data := .fields #[.ref t, .none, .none, .none, .bool false, .none] }

section
open Builtin Builtin.ObjectAttr
variable {prog : Program} {w : World} {A : Around} {E : Value → Shared → Prop} {s : Shared} {K : Frag} {C C2 e t : Addr} {dd : Option Addr} {mA : Str → Option Value} {cd : ClassData} {name : Str} {v : Value} {ns : List Str}
theorem exc_setattr {Q : Unit → Shared → Prop} (X : K.In s.heap) (hl : findIn K (.ref C) "__setattr__" = some (some (.builtin "object.__setattr__"))) (hf : findIn K (.ref C) name = some none)
    (hcd : clsIn K C = some cd) (hmro : cd.mro = [.ref C, .ref C2, .type "Exception", .type "BaseException", .type "object"] ∨ cd.mro = [.ref C, .type "Exception", .type "BaseException", .type "object"]) (hdict : cd.hasDict = true) (he : s.heap.get? e = some (excObj C dd t))
    (hd : (dd = none ∧ ∀ n, mA n = none) ∨ ∃ d, dd = some d ∧ d ≠ e ∧ s.heap.Ns1 d mA) (hw : PySem.Within mA ns) (hsz : ns.length ≤ 1000)
    (h : ∀ h' tk' d, h'.get? e = some (excObj C (some d) t) → d ≠ e → h'.Ns1 d (fun y => if y = name then some v else mA y) → (∀ b o, b ≠ e → dd ≠ some b → s.heap.get? b = some o → h'.get? b = some o) →
      ((dd = none ∧ s.heap.get? d = none) ∨ dd = some d) → Q () { s with heap := h', toks := tk' }) :
    wpAny (model prog w) A (setAttr (.ref e) name v) Q E s := by
  have I : InstAt s.heap e (excObj C dd t) C none ∨ True := .inr trivial
  have hT : Looks (model prog w) s.heap (typeOf (.ref e)) (.ref C) := (Looks.ld he).andThen .now
  have SF := PySem.F.store_object
  unfold setAttr callSpecial? specialOf
  refine wpAny_bind (wpAny_mkText (wpAny_bind (wpAny_bind (wpAny_bind ?_))))
  refine hT _ _ _ _ (fun _ _ e => e) (looks_findIn X hl _ _ _ _ (fun _ _ e => e) (wpAny_holding ?_))
  rw [SF.slot.bind]
  refine wpAny_bind (wpAny_pure (wpAny_bind (wpAny_call ?_)))
  have sub : Looks (model prog w) s.heap (isInstance (.ref e) (.type "object")) true := hT.andThen (looks_mroIn X (by
    unfold mroIn; rw [hcd, Option.bind_some]
    rcases hmro with hm | hm <;> rw [hm] <;> simp))
  refine codeAny_call_builtin SF.slot.plain SF.entry (@check_slot (model prog w) _ _ _ "object.__setattr__" "object" "__setattr__" (.ref e) [.str name s.toks, v] [] _ SF.kind SF.split sub (SF.args (.ref e) (.str name s.toks) v) ?_)
  have hm : Looks (model prog w) s.heap (mroOf (.ref C)) cd.mro := (looks_clsIn X hcd).andThen .now
  have hpass : refuseLoop (.ref e) "__setattr__" cd.mro = pure () := by
    rcases hmro with hm | hm <;> rw [hm]
    · rw [refuseLoop_ref, refuseLoop_ref]; exact PySem.F.store_Exception.passes _
    · rw [refuseLoop_ref]; exact PySem.F.store_Exception.passes _
  show wpAny _ _ (Builtin.«object.__setattr__» ⟨[.ref e, .str name s.toks, v], []⟩) _ _ _
  rw [osa_eq, refuse_eq]
  refine wpAny_bind (wpAny_bind (Looks.here (s := { s with toks := s.toks + 1 }) hT (wpAny_bind (Looks.here (s := { s with toks := s.toks + 1 }) hm ?_))))
  rw [hpass]
  refine wpAny_pure (wpAny_bind (Looks.here (s := { s with toks := s.toks + 1 }) hT (wpAny_bind (Looks.here (s := { s with toks := s.toks + 1 }) (looks_findIn X hf) (wpAny_bind (wpAny_pure (a := none) ?_))))))
  show wpAny _ _ (storeInOwnDict (.ref e) (.ref C) (.str name s.toks) name v false) _ _ _
  unfold storeInOwnDict
  refine wpAny_bind (wpAny_pure ?_)
  rw [if_neg (by simp)]
  refine wpAny_bind ?_
  unfold ownDictForStores instanceDict
  refine wpAny_bind (wpAny_loadPart he ?_)
  refine wpAny_bind (Looks.here (s := { s with toks := s.toks + 1 }) (looks_clsIn X hcd) ?_)
  rw [hdict]
  rcases hd with ⟨rfl, hmA⟩ | ⟨dx, rfl, hne, hns⟩
  · rw [if_neg (by decide)]
    have hx₁ : (s.heap.push { cls := .type "dict", data := .dict #[] }).get? e = some (excObj C none t) := Heap.get?_push_of_some _ he
    have hxs : e ≠ s.heap.objs.size := Nat.ne_of_lt (Heap.lt_size he)
    show wpAny _ _ (alloc { cls := .type "dict", data := .dict #[] } >>= fun d => update e (fun o => { cls := o.cls, dict := some d, data := o.data, slots := o.slots }) >>= fun _ => dictMade (.ref C) e d) _ _ _
    refine wpAny_bind (wpAny_alloc (wpAny_bind (wpAny_update hx₁ ?_)))
    show wpAny _ _ (pure (some s.heap.objs.size)) _ _ _
    refine wpAny_pure ?_
    have hgd : ((s.heap.push { cls := .type "dict", data := .dict #[] }).update e fun o => { cls := o.cls, dict := some s.heap.objs.size, data := o.data, slots := o.slots }).get? s.heap.objs.size
        = some { cls := .type "dict", data := .dict #[] } := (Heap.get?_update_ne _ _ _ _ hxs.symm).trans (Heap.get?_push_at rfl rfl)
    have hnd : ((s.heap.push { cls := .type "dict", data := .dict #[] }).update e fun o => { cls := o.cls, dict := some s.heap.objs.size, data := o.data, slots := o.slots }).Ns s.heap.objs.size (fun _ => none) :=
      ⟨_, #[], _, hgd, rfl, fun e he => absurd he (by simp), fun _ => rfl⟩
    show wpAny _ _ (storeInDict s.heap.objs.size (.str name s.toks) name v) _ _ _
    unfold storeInDict newKeyGuard
    refine wpAny_bind (wpAny_pure (wpAny_bind (wpAny_nsSet1 (Heap.Ns1.of_empty hnd) fun h' hn' hs => ?_)))
    obtain ⟨oD, esD, epD, hoD, hdD, hcD⟩ := hn'.count (PySem.Within.cons name v PySem.Within.nil)
    refine wpAny_bind (wpAny_lookBehind hoD (by rw [hdD]; exact pastItsLine_dict (Nat.le_trans hcD (by rw [List.length_cons, List.length_nil, sizeLine_eq]; omega))) ?_)
    refine wpAny_pure (wpAny_pure (wpAny_pure ?_))
    refine h h' _ s.heap.objs.size ?_ hxs.symm ?_ (fun b o hb _ hbo => ?_) (.inl ⟨rfl, ?_⟩)
    · exact (hs.2 e hxs).trans (Heap.get?_update_self _ hx₁ rfl)
    · obtain ⟨o', es, ep, e1, e2, e3, eu, e4⟩ := hn'
      exact ⟨o', es, ep, e1, e2, e3, eu, fun y => by rw [e4 y]; by_cases hy : y = name <;> simp [hy, hmA]⟩
    · exact (hs.2 b (Nat.ne_of_lt (Heap.lt_size hbo))).trans ((Heap.get?_update_ne _ _ _ _ hb).trans (Heap.get?_push_of_some _ hbo))
    · exact Heap.get?_none_of_le (Nat.le_refl _)
  · rw [if_neg (by decide)]
    show wpAny _ _ (pure (some dx)) _ _ _
    refine wpAny_pure ?_
    show wpAny _ _ (storeInDict dx (.str name s.toks) name v) _ _ _
    unfold storeInDict newKeyGuard
    refine wpAny_bind (wpAny_pure (wpAny_bind (wpAny_nsSet1 hns fun h' hn' hs => ?_)))
    obtain ⟨oD, esD, epD, hoD, hdD, hcD⟩ := hn'.count (PySem.Within.cons name v hw)
    refine wpAny_bind (wpAny_lookBehind hoD (by rw [hdD]; exact pastItsLine_dict (Nat.le_trans hcD (by rw [List.length_cons, sizeLine_eq]; omega))) ?_)
    refine wpAny_pure (wpAny_pure (wpAny_pure ?_))
    exact h h' _ dx ((hs.2 e hne.symm).trans he) hne hn' (fun b o _ hb hbo => (hs.2 b fun q => hb (by rw [q])).trans hbo) (.inr rfl)
end

section
variable {prog : Program} {w : World} {A : Around} {E : Value → Shared → Prop} {h : Heap} {g : Array GenState} {d : Drawn} {tk : Nat} {os : OsState}
variable {nm q : Str} {C N e t : Addr} {bs bm bmB : List Value} {hdct : Bool} {sn : List Str} {sub : List Value} {ab : Bool} {col : Option Bool} {dd dE : Option Addr} {k0 k1 k2 k3 k5 : Option Value} {B newId initId : String}
theorem exc_check_init (F : ExcBaseFacts B newId initId bmB) (U : Above B bm) {M : Model} {oe : Obj} {rest : List Value} {Q : Unit → Shared → Prop}
    (hC : h.get? C = some (excClassObj nm q C N bs bm hdct sn sub ab col dd k0 k1 k2 k3 k5 newId)) (he : h.get? e = some oe) (hcls : oe.cls = .ref C) (hq : Q () ⟨h, g, d, tk, os⟩) :
    wpAny M A (checkBuiltinCall initId ⟨.ref e :: rest, []⟩) Q E ⟨h, g, d, tk, os⟩ := by
  have hB : (Value.ref C :: bm).contains (.type B) = true := by rw [List.contains_cons, U.hasB, Bool.or_true]
  have hs := F.noStar
  simp only [checkBuiltinCall, F.initKind, F.initSplit, F.initRow]
  repeat (first | (with_reducible refine wpAny_loadPart_at he ?_; rw [hcls]) | with_reducible refine wpAny_loadPart_at hC ?_ | (with_reducible refine wpAny_isSubtype_exc hC ?_; rw [hB]) | wp_step)
  refine wpAny_onRaise ?_
  rw [show ∀ (a b : String) (n : Nat), Bind.check ⟨.positional, "*", B, .self, [⟨"args", .varPos, false⟩]⟩ a b n (List.map (fun x => x.fst) ({ pos := Value.ref e :: rest } : Args).kw) = pure () from
    fun a b n => check_star_args _ _ _ _ _ _]
  exact wpAny_pure hq

/-- Exception.__init__ upon an exception that lies there: its args are new -/
theorem exc_init (F : ExcBaseFacts B newId initId bmB) (U : Above B bm) {rest : List Value} {Q : Value → Shared → Prop}
    (hC : h.get? C = some (excClassObj nm q C N bs bm hdct sn sub ab col dd k0 k1 k2 k3 k5 newId)) (he : h.get? e = some (excObj C dE t))
    (hq : ∀ h', h'.get? e = some (excObj C dE h.objs.size) → h'.get? h.objs.size = some (tupObj rest) → (∀ b o, b ≠ e → h.get? b = some o → h'.get? b = some o) → Q .none ⟨h', g, d, tk, os⟩) (hrest : rest.length ≤ sizeLine) :
    wpAny (model prog w) A (call (.builtin initId) (.ref e :: rest)) Q E ⟨h, g, d, tk, os⟩ := by
  refine wpAny_call (codeAny_call_builtin F.init.plain F.initEntry (exc_check_init F U hC he rfl ?_))
  have he₁ : (h.push (tupObj rest)).get? e = some (excObj C dE t) := Heap.get?_push_of_some _ he
  have hne : h.objs.size ≠ e := Nat.ne_of_gt (Heap.lt_size he)
  wp_walk
  refine hq _ ?_ ?_ (fun b o hb e => ?_)
  · rw [Heap.get?_update_self _ he₁ rfl]
    rfl
  · rw [Heap.get?_update_other _ _ (Ne.symm hne)]
    exact Heap.get?_push_at rfl rfl
  · rw [Heap.get?_update_other _ _ (Ne.symm hb)]
    exact Heap.get?_push_of_some _ e
end

abbrev bmF : List Value := [.ref 31, .type "Exception", .type "BaseException", .type "object"]
theorem above_fault : Above "Exception" bmF := ⟨by decide +kernel, by decide +kernel, by decide +kernel⟩
/-- C is a class below AdaError whose __init__ is fI -/
structure Fault (K : Frag) (C fI : Addr) : Prop where
  cls : ∃ nm q N bs sn sub ab col dd k0 k1 k2 k3 k5 c d es n sl, K.lookup C = some (excClassObj nm q C N bs bmF true sn sub ab col dd k0 k1 k2 k3 k5 "Exception.__new__") ∧
    K.lookup N = some ⟨c, d, .dict es n, sl⟩ ∧ StrKeys es ∧ nsFind es "__init__" = some (.ref fI)
  sa : findIn K (.ref C) "__setattr__" = some (some (.builtin "object.__setattr__"))
  text : findIn K (.ref C) "text" = some none
  line : findIn K (.ref C) "line" = some none
  cd : ∃ cd, clsIn K C = some cd ∧ cd.mro = .ref C :: bmF ∧ cd.hasDict = true
theorem fault_check (w : World) : Fault (hd.heap_1 w.params) 70 67 where
  cls := by
    refine' ⟨_, _, _, _, _, _, _, _, _, _, _, _, _, _, _, _, _, _, _, rfl, rfl, ?_, ?_⟩
    · intro e he
      simp only [List.mem_toArray, List.mem_cons, List.not_mem_nil, or_false] at he
      rcases he with rfl | rfl | rfl | rfl | rfl | rfl | rfl | rfl <;> exact ⟨_, _, rfl⟩
    · rfl
  sa := by kernel_rfl
  text := by kernel_rfl
  line := by kernel_rfl
  cd := ⟨_, rfl, rfl, rfl⟩

theorem fault_syntax (w : World) : Fault (hd.heap_1 w.params) 51 48 where
  cls := by
    refine' ⟨_, _, _, _, _, _, _, _, _, _, _, _, _, _, _, _, _, _, _, rfl, rfl, ?_, ?_⟩
    · intro e he
      simp only [List.mem_toArray, List.mem_cons, List.not_mem_nil, or_false] at he
      rcases he with rfl | rfl | rfl | rfl | rfl | rfl | rfl | rfl <;> exact ⟨_, _, rfl⟩
    · rfl
  sa := by kernel_rfl
  text := by kernel_rfl
  line := by kernel_rfl
  cd := ⟨_, rfl, rfl, rfl⟩

theorem Fault.mro {K : Frag} {C fI : Addr} (Z : Fault K C fI) {h : Heap} (X : K.In h) : ∃ nm q N bs sn sub ab col dd k0 k1 k2 k3 k5 mN, h.get? C = some (excClassObj nm q C N bs bmF true sn sub ab col dd k0 k1 k2 k3 k5 "Exception.__new__") ∧ h.Ns N mN ∧ mN "__init__" = some (.ref fI) := by
  obtain ⟨nm, q, N, bs, sn, sub, ab, col, dd, k0, k1, k2, k3, k5, c, d, es, n, sl, h1, h2, h3, h4⟩ := Z.cls
  exact ⟨nm, q, N, bs, sn, sub, ab, col, dd, k0, k1, k2, k3, k5, nsFind es, X _ _ h1, ⟨_, es, n, X _ _ h2, rfl, h3, fun _ => rfl⟩, h4⟩
theorem fr_but1 {h₀ h h' : Heap} {L e : Addr} {m : Str → Option Value} (F : Fr h₀ L h m) (he : h₀.get? e = none) (hL : e ≠ L) (k : ∀ b o, b ≠ e → h.get? b = some o → h'.get? b = some o) : Fr h₀ L h' m :=
  ⟨F.ns.at' fun o q => k L o (Ne.symm hL) q, fun b o q => k b o (fun z => by rw [z, he] at q; cases q) (F.keep b o q), F.above⟩
section
variable {prog : Program} {w : World} {A : Around} {E : Value → Shared → Prop} {s : Shared} {K : Frag} {h₀ : Heap} {L C fI e t t2 d : Addr} {m mA : Str → Option Value} {rest : List Value} {name : Str} {v : Value} {o2 od : Obj} {ns : List Str}
theorem exc_init_K {Q : Value → Shared → Prop} (F : Fr h₀ L s.heap m) (X : K.In h₀) (Z : Fault K C fI) (N : News h₀ L s.heap [(e, excObj C none t)]) (hrest : rest.length ≤ sizeLine)
    (h : ∀ t2 h', Fr h₀ L h' m → News h₀ L h' [(e, excObj C none t2), (t2, tupObj rest)] → t2 ≠ e → Q .none { s with heap := h' }) :
    wpAny (model prog w) A (call (.builtin "Exception.__init__") (.ref e :: rest)) Q E s := by
  obtain ⟨nm, q, N', bs, sn, sub, ab, col, dd, k0, k1, k2, k3, k5, mN, hC, _, _⟩ := Z.mro (X.keeps F.keep)
  have hN := N _ (.head _)
  obtain ⟨hp, g, dr, tk, os⟩ := s
  refine exc_init PySem.F.excBase_Exception above_fault hC hN.1 (fun h' h1 h2 k => ?_) hrest
  have hlt : e < hp.objs.size := Heap.lt_size hN.1
  refine h hp.objs.size h' (fr_but1 F hN.2.2 hN.2.1 k) (fun p hp' => ?_) (Nat.ne_of_gt hlt)
  rcases List.mem_cons.mp hp' with rfl | hp'
  · exact ⟨h1, hN.2⟩
  · rw [List.mem_singleton.mp hp']
    refine ⟨h2, Nat.ne_of_gt F.ns.lt, ?_⟩
    cases hq : h₀.get? hp.objs.size with
    | none => rfl
    | some o => exact absurd (Heap.lt_size (F.keep _ _ hq)) (Nat.lt_irrefl _)
theorem exc_set1_K {Q : Unit → Shared → Prop} (F : Fr h₀ L s.heap m) (X : K.In h₀) (Z : Fault K C fI) (hf : findIn K (.ref C) name = some none) (N : News h₀ L s.heap [(e, excObj C none t), (t2, o2)]) (ne : t2 ≠ e)
    (h : ∀ d od h' tk', Fr h₀ L h' m → News h₀ L h' [(e, excObj C (some d) t), (t2, o2), (d, od)] → h'.Ns1 d (fun y => if y = name then some v else none) → d ≠ e → d ≠ t2 → Q () { s with heap := h', toks := tk' }) :
    wpAny (model prog w) A (setAttr (.ref e) name v) Q E s := by
  obtain ⟨cd, h1, h2, h3⟩ := Z.cd
  have hN := N _ (.head _)
  have hN2 := N _ (.tail _ (.head _))
  refine exc_setattr (mA := fun _ => none) (ns := []) (C2 := 31) (X.keeps F.keep) Z.sa hf h1 (.inl h2) h3 hN.1 (.inl ⟨rfl, fun _ => rfl⟩) PySem.Within.nil (by decide) fun h' tk' d he hde hns k hd => ?_
  have hdn : s.heap.get? d = none := hd.elim (·.2) fun z => nomatch z
  obtain ⟨od, es, ep, hod, hdd, _⟩ := id hns
  have fresh : ∀ b o, h₀.get? b = some o → b ≠ d := fun b o q z => by rw [z] at q; rw [F.keep _ _ q] at hdn; cases hdn
  refine h d od h' tk' (fr_but1 F hN.2.2 hN.2.1 fun b o hb q => k b o hb (fun z => nomatch z) q) (fun p hp => ?_) hns hde (fun z => by rw [z, hN2.1] at hdn; cases hdn)
  rcases List.mem_cons.mp hp with rfl | hp
  · exact ⟨he, hN.2⟩
  rcases List.mem_cons.mp hp with rfl | hp
  · exact ⟨k _ _ ne (fun z => nomatch z) hN2.1, hN2.2⟩
  · rw [List.mem_singleton.mp hp]
    refine ⟨hod, fun z => ?_, ?_⟩
    · obtain ⟨oL, _, _, q, _⟩ := F.ns
      rw [← z, hdn] at q
      cases q
    · cases q : h₀.get? d with
      | none => rfl
      | some o => exact absurd rfl (fresh d o q)
theorem exc_set2_K {Q : Unit → Shared → Prop} (F : Fr h₀ L s.heap m) (X : K.In h₀) (Z : Fault K C fI) (hf : findIn K (.ref C) name = some none) (N : News h₀ L s.heap [(e, excObj C (some d) t), (t2, o2), (d, od)]) (ne : t2 ≠ e) (hde : d ≠ e) (hd2 : d ≠ t2) (hns : s.heap.Ns1 d mA) (hw : PySem.Within mA ns) (hsz : ns.length ≤ 1000)
    (h : ∀ h' tk', Fr h₀ L h' m → News h₀ L h' [(e, excObj C (some d) t), (t2, o2)] → Q () { s with heap := h', toks := tk' }) :
    wpAny (model prog w) A (setAttr (.ref e) name v) Q E s := by
  obtain ⟨cd, h1, h2, h3⟩ := Z.cd
  have hN := N _ (.head _)
  have hN2 := N _ (.tail _ (.head _))
  have hN3 := N _ (.tail _ (.tail _ (.head _)))
  refine exc_setattr (mA := mA) (ns := ns) (C2 := 31) (X.keeps F.keep) Z.sa hf h1 (.inl h2) h3 hN.1 (.inr ⟨d, rfl, hde, hns⟩) hw hsz fun h' tk' d' he hde' hns' k hd => ?_
  obtain rfl : d = d' := hd.elim (fun z => nomatch z.1) fun z => Option.some.inj z
  have ns_ : ∀ b, b ≠ d → some d ≠ some b := fun b hb z => hb (Option.some.inj z).symm
  refine h h' tk' ⟨F.ns.at' fun o q => k L o (Ne.symm hN.2.1) (ns_ _ (Ne.symm hN3.2.1)) q, fun b o q => k b o (fun z => by rw [z, hN.2.2] at q; cases q) (ns_ _ fun z => by rw [z, hN3.2.2] at q; cases q) (F.keep b o q), F.above⟩ (fun p hp => ?_)
  rcases List.mem_cons.mp hp with rfl | hp
  · exact ⟨he, hN.2⟩
  · rw [List.mem_singleton.mp hp]
    exact ⟨k _ _ ne (ns_ _ (Ne.symm hd2)) hN2.1, hN2.2⟩
end

-- part LvInit
local macro_rules | `(tactic| walk_at "getMethod type:Exception") => `(tactic| (k_here; refine' method_type ?F ?X ?m (by decide +kernel) ?e ?h ?_; (case F | X => k_asm); (case m => kernel_rfl); (case e => k_dflt k_is); (case h => k_handed)))
local macro_rules | `(tactic| walk_at "call builtin:Exception.__init__") => `(tactic| (k_here; refine' exc_init_K ?F ?X ?Z ?N ?z ?_; (case F | X => k_asm); (case Z => assumption); (case N => k_asm); (case z => exact Nat.le_of_ble_eq_true rfl); intro t2' h' F' N' n2'; (try k_sweep)))
local macro_rules | `(tactic| walk_at "setAttr ref") => `(tactic| (k_here; refine' exc_set1_K ?F ?X ?Z ?f ?N ?n ?_; (case F | X => k_asm); (case Z => assumption); (case f => exact Fault.text (by assumption)); (case N => k_asm); (case n => assumption); intro d' od' h' tk' F' N' ns' de' d2'; (try k_sweep)))

def AdaInit (w : World) (mean : ExcName → Option Value) (mg mb : Str → Option Value) (D U : Nat) (C : Addr) : Prop :=
  ∀ (gd : Option (List Code)) (cn : Str) (cs : Scope) (a : Addr) (ccd : Value) (cl : List (Str × Addr)) (outer : List Env) (A₀ : Around) (base h₀ : Heap) (L : Addr) (m : Str → Option Value) (s : Shared)
    (Q E : Value → Shared → Prop),
    Below A₀ base outer h₀ → Fr h₀ L s.heap m → (hd.heap_1 w.params).In h₀ →  Top hd.view_1 (looseW hd.view_1 [Str.ofString "is_sign"]) mean mg mb h₀ → cs.kind = .function →
    ∀ (e t : Addr) (tx : Str) (tk : Tok), News h₀ L s.heap [(e, excObj C none t)] →
    (∀ h' tk' d od t2, Fr h₀ L h' m → News h₀ L h' [(e, excObj C (some d) t2), (t2, tupObj [.str tx tk]), (d, od)] → h'.Ns1 d (fun y => if y = Str.ofString "text" then some (.str tx tk) else none) → t2 ≠ e → d ≠ e → d ≠ t2 →
      (∀ b o, b ≠ e → s.heap.get? b = some o → h'.get? b = some o) → Q .none { s with heap := h', toks := tk' }) →
    wpAny (model PySem.Challenge.rw_xw0005_01.row.prog w) (ktrTop D U gd cn cs L a ccd cl outer) (call (.ref 28) [.ref e, .str tx tk]) Q E s
set_option maxHeartbeats 40000000 in
theorem ada_init (w : World) (mean : ExcName → Option Value) (mg mb : Str → Option Value) (C fI : Addr) (Z : Fault (hd.heap_1 w.params) C fI) : AdaInit w mean mg mb 560 5600 C := by
  unfold AdaInit
  k_fill
  w_top off
  intro gd cn cs a ccd cl outer A₀ base h₀ L m s Q E B F X T hk e t tx tk N hret
  refine wpAny_call ?_
  k_dflt ktr_enter
  k_steps
  rename (_ = hideAll _ _) => hg
  rename (Heap.StaysIn _ _) => st
  exact hret _ _ _ _ _ (by k_asm) (by k_asm) (by assumption) (by assumption) (by assumption) (by assumption) (fun b o hb q => st b o (hg ▸ hideAll_get _ q (by simpa using hb)))

theorem ada_use {w : World} {mean : ExcName → Option Value} {mg mb : Str → Option Value} {C fI : Addr} {dp un : Nat} (Z : Fault (hd.heap_1 w.params) C fI)
    {gd : Option (List Code)} {cn : Str} {cs : Scope} {a : Addr} {ccd : Value} {cl : List (Str × Addr)} {outer : List Env} {A₀ : Around} {base h₀ : Heap} {L : Addr} {m : Str → Option Value} {s : Shared}
    {Q E : Value → Shared → Prop} {e t : Addr} {tx : Str} {tk : Tok}
    (B : Below A₀ base outer h₀) (F : Fr h₀ L s.heap m) (X : (hd.heap_1 w.params).In h₀) (T : Top hd.view_1 (looseW hd.view_1 [Str.ofString "is_sign"]) mean mg mb h₀) (hk : cs.kind = .function) (N : News h₀ L s.heap [(e, excObj C none t)]) (hd : dp ≤ 560) (hu : un ≤ 5600)
    (ret : ∀ h' tk' d od t2, Fr h₀ L h' m → News h₀ L h' [(e, excObj C (some d) t2), (t2, tupObj [.str tx tk]), (d, od)] → h'.Ns1 d (fun y => if y = Str.ofString "text" then some (.str tx tk) else none) → t2 ≠ e → d ≠ e → d ≠ t2 →
      (∀ b o, b ≠ e → s.heap.get? b = some o → h'.get? b = some o) → Q .none { s with heap := h', toks := tk' }) :
    wpAny (model PySem.Challenge.rw_xw0005_01.row.prog w) (ktrTop dp un gd cn cs L a ccd cl outer) (call (.ref 28) [.ref e, .str tx tk]) Q E s :=
  wpAny_room (d := 560) (u := 5600) hd hu (ada_init w mean mg mb C fI Z gd cn cs a ccd cl outer A₀ base h₀ L m s Q E B F X T hk e t tx tk N ret)
local macro_rules | `(tactic| walk_at "call ref") => `(tactic| (k_here; (with_reducible show wpAny _ _ (call (Value.ref 28) _) _ _ _); k_dflt (refine' ada_use ?kZ ?k1 ?k2 ?k3 ?k5 ?kK ?k4 ?kd ?ku ?_; (case kZ => assumption); (case k1 | k2 => k_asm); (case k3 | k4 | k5 => k_asm); (case kK => exact rfl); (case kd | ku => exact Nat.le_of_ble_eq_true rfl); k_whole; intro h' tk' d' od' t2' F' N' ns' n2' de' d2' k'; (try k_sweep); (try dsimp only))))
local macro_rules | `(tactic| walk_at "setAttr ref") => `(tactic| (k_here; refine' exc_set2_K ?F ?X ?Z ?f ?N ?n ?de ?d2 ?ns ?w ?z ?_; (case F | X => k_asm); (case Z => assumption); (case f => exact Fault.line (by assumption)); (case N => k_asm); (case n | de => assumption); (case d2 | ns => assumption); (case w => exact PySem.Within.cons _ _ PySem.Within.nil); (case z => decide); intro h' tk' F' N'; (try k_sweep)))
def FaultInit (w : World) (mean : ExcName → Option Value) (mg mb : Str → Option Value) (D U : Nat) (C fI : Addr) : Prop :=
  ∀ (gd : Option (List Code)) (cn : Str) (cs : Scope) (a : Addr) (ccd : Value) (cl : List (Str × Addr)) (outer : List Env) (A₀ : Around) (base h₀ : Heap) (L : Addr) (m : Str → Option Value) (s : Shared)
    (Q E : Value → Shared → Prop),
    Below A₀ base outer h₀ → Fr h₀ L s.heap m → (hd.heap_1 w.params).In h₀ →  Top hd.view_1 (looseW hd.view_1 [Str.ofString "is_sign"]) mean mg mb h₀ → cs.kind = .function →
    ∀ (e t : Addr) (ln : Int) (lt : Tok) (tx : Str) (tk : Tok), News h₀ L s.heap [(e, excObj C none t)] →
    (∀ h' tk' d t2, Fr h₀ L h' m → News h₀ L h' [(e, excObj C (some d) t2), (t2, tupObj [.str tx tk])] → (∀ b o, b ≠ e → s.heap.get? b = some o → h'.get? b = some o) → Q .none { s with heap := h', toks := tk' }) →
    wpAny (model PySem.Challenge.rw_xw0005_01.row.prog w) (ktrTop D U gd cn cs L a ccd cl outer) (call (.ref fI) [.ref e, .int ln lt, .str tx tk]) Q E s
set_option maxHeartbeats 40000000 in
theorem check_init (w : World) (mean : ExcName → Option Value) (mg mb : Str → Option Value) : FaultInit w mean mg mb 550 5500 70 67 := by
  have Z := fault_check w
  unfold FaultInit
  k_fill
  w_top off
  intro gd cn cs a ccd cl outer A₀ base h₀ L m s Q E B F X T hk e t ln lt tx tk N hret
  refine wpAny_call ?_
  k_dflt ktr_enter
  k_steps
  rename (_ = hideAll _ _) => hg
  rename (Heap.StaysIn _ _) => st
  exact hret _ _ _ _ (by k_asm) (by k_asm) (fun b o hb q => st b o (hg ▸ hideAll_get _ q (by simpa using hb)))
set_option maxHeartbeats 40000000 in
theorem syntax_init (w : World) (mean : ExcName → Option Value) (mg mb : Str → Option Value) : FaultInit w mean mg mb 550 5500 51 48 := by
  have Z := fault_syntax w
  unfold FaultInit
  k_fill
  w_top off
  intro gd cn cs a ccd cl outer A₀ base h₀ L m s Q E B F X T hk e t ln lt tx tk N hret
  refine wpAny_call ?_
  k_dflt ktr_enter
  k_steps
  rename (_ = hideAll _ _) => hg
  rename (Heap.StaysIn _ _) => st
  exact hret _ _ _ _ (by k_asm) (by k_asm) (fun b o hb q => st b o (hg ▸ hideAll_get _ q (by simpa using hb)))

-- part LvRaise
section
variable {M : Model} {A : Around} {E : Value → Shared → Prop} {s' : Shared} {base g : Heap} {outer : List Env} {L a e t C : Addr} {m : Str → Option Value} {name : Str} {scope : Scope} {cd : Value} {Q : Unit → Shared → Prop} {dd : Option Addr}
theorem env_mem {env : Env} {L b : Addr} {outer : List Env} (hf : env.frame = some L) (hm : b ∈ (env :: outer).filterMap (·.frame)) : b = L ∨ b ∈ outer.filterMap (·.frame) := by
  obtain ⟨e', he, hf'⟩ := List.mem_filterMap.mp hm
  rcases List.mem_cons.mp he with rfl | he
  · exact .inl (Option.some.inj (hf'.symm.trans hf))
  · exact .inr (List.mem_filterMap.mpr ⟨e', he, hf'⟩)
theorem leave_onF {env : Env} {g₂ : Heap} {cls : Value} {vs : List Value} {news : List (Addr × Obj)} (K : Below A base outer g) (F : Fr g L g₂ m) (R : RaisedS base g₂ (env :: outer) e cls t vs news s'.heap) (hsm : g₂.UpToSlots s'.heap) (hf : env.frame = some L)
    (hQ : ∀ h', RaisedS base g outer e cls t vs news h' → g.UpToSlots h' → Q () { s' with heap := h' }) :
    wpAny M (A.deeper env) (leaving env (.ref e)) Q E s' := by
  obtain ⟨⟨B, hB, hBG, hl, hfl, hnew⟩, htup⟩ := R
  exact wpAny_leaves_onW (Around.frames_deeper K.stack) hf hfl fun h' x1 x2 =>
    have R : RaisedS base g outer e cls t vs news h' := ⟨⟨B, hB, fun b o q nm => hBG b o (F.keep b o q) (fun hm => by
      rcases env_mem hf hm with z | z
      · rw [z, kts_self F] at q
        cases q
      · exact nm z), fun q hq => ⟨(hl q hq).1, kts_none F.keep (hl q hq).2.1, (hl q hq).2.2⟩, x1, hnew⟩, htup.of_slots x2⟩
    hQ h' R ((Heap.UpToSlots.of_keeps F.keep).trans (hsm.trans x2))
theorem leave_raiseF {env : Env} {vs : List Value} (K : Below A base outer g) (F : Fr g L s'.heap m) (N : News g L s'.heap [(e, excObj C dd t), (t, tupObj vs)]) (hf : env.frame = some L)
    (hQ : ∀ h' t, RaisedS base g outer e (.ref C) t vs [] h' → g.UpToSlots h' → Q () { s' with heap := h' }) (hk : env.scope.kind = .function := by rfl) :
    wpAny M (A.deeper env) (leaving env (.ref e)) Q E s' := by
  have K' := pushX K F hf hk
  have kts_mem : ∀ {b : Addr}, b ∈ (env :: outer).filterMap (·.frame) → b = L ∨ b ∈ outer.filterMap (·.frame) := fun hm => env_mem hf hm
  have Ne := N _ (.head _)
  have Nt := N _ (.tail _ (.head _))
  let as := e :: t :: (env :: outer).filterMap (·.frame)
  have hin : ∀ e2 ∈ (env :: outer), ∀ b, e2.frame = some b → b ∈ as := fun e2 he b hb => .tail _ (.tail _ (List.mem_filterMap.mpr ⟨e2, he, hb⟩))
  have hfro : ∀ b ∈ (env :: outer).filterMap (·.frame), base.get? b = none := fun b hm => (K'.frames.mem hm).1
  have hbe : base.get? e = none := fresh_of_stays K.stays Ne.2.2
  have hbt : base.get? t = none := fresh_of_stays K.stays Nt.2.2
  have st : base.StaysIn (hideAll s'.heap as) := fun b o q => hideAll_get _ (K'.stays b o q) fun hm => by
    rcases List.mem_cons.mp hm with z | hm
    · rw [z, hbe] at q; cases q
    rcases List.mem_cons.mp hm with z | hm
    · rw [z, hbt] at q; cases q
    rw [hfro b hm] at q; cases q
  have sg : ∀ b o, g.get? b = some o → b ∉ outer.filterMap (·.frame) → (hideAll s'.heap as).get? b = some o := fun b o q nm => hideAll_get _ (F.keep b o q) fun hm => by
    rcases List.mem_cons.mp hm with z | hm
    · rw [z, Ne.2.2] at q; cases q
    rcases List.mem_cons.mp hm with z | hm
    · rw [z, Nt.2.2] at q; cases q
    rcases kts_mem hm with z | z
    · rw [z, kts_self F] at q
      cases q
    · exact nm z
  refine wpAny_leaving_firstW (base := hideAll s'.heap as) (a0 := .ref t) K'.stack (funFrames_hide K'.frames hin) hf Ne.1 (fun b o q => of_hideAll _ q) (hideAll_none _ (.head _)) rfl rfl rfl fun h' hL => ?_
  obtain ⟨k1, ⟨_, _, k2⟩, k3, k4⟩ := hL
  refine hQ h' t ⟨⟨_, st, sg, (fun q hq => nomatch hq), ⟨k1, hideAll_none _ (.head _), k2, k3⟩, hideAll_none _ (.tail _ (.head _))⟩, Heap.TupAt.of_slots ⟨_, _, Nt.1, rfl, rfl⟩ k4⟩ ((Heap.UpToSlots.of_keeps F.keep).trans k4)
end

section
variable {M : Model} {A : Around} {E : Value → Shared → Prop} {env : Env} {s : Shared}
variable {nm q : Str} {C N e t : Addr} {bs bm : List Value} {hdct : Bool} {sn : List Str} {sub : List Value} {ab : Bool} {col : Option Bool} {dd : Option Addr} {k0 k1 k2 k3 k5 : Option Value} {newId : String} {dx : Option Addr}

theorem raiseStmt_F {Q : Flow → Shared → Prop} (hh : A.handled = none) {x : Sem Value} {P : Value → Shared → Prop}
    (hP : ∀ v s₁, P v s₁ → ∃ e t dx C nm q N bs bm hdct sn sub ab col dd k0 k1 k2 k3 k5 newId, v = .ref e ∧ bm.contains (.type "BaseException") = true ∧
      s₁.heap.get? C = some (excClassObj nm q C N bs bm hdct sn sub ab col dd k0 k1 k2 k3 k5 newId) ∧ s₁.heap.get? e = some (excObj C dx t) ∧ E (.ref e) s₁)
    (h : wpAny M A x P E s) :
    wpAny M A (raiseStmt env (some x) none) Q E s := by
  unfold raiseStmt
  refine wpAny_bind (wpAny_mono h (fun v s₁ h₁ => ?_) fun _ _ x => x)
  obtain ⟨e, t, dx, C, nm, q, N, bs, bm, hdct, sn, sub, ab, col, dd, k0, k1, k2, k3, k5, newId, rfl, hb, hC, he, hE⟩ := hP _ _ h₁
  have hcB : (Value.ref C :: bm).contains (.type "BaseException") = true := by rw [List.contains_cons, hb, Bool.or_true]
  obtain ⟨hp, g, d, tk, os⟩ := s₁
  repeat (first | with_reducible refine wpAny_loadPart_at he ?_ | with_reducible refine wpAny_loadPart_at hC ?_ | (with_reducible refine wpAny_isSubtype_exc hC ?_; rw [hcB]) | wp_step)
  exact wpAny_raiseNew_none hh hE
end

/-- what a raised own fault is, at the raise: its class is a Fault class, its objects are new -/
def Thrown (K : Frag) (h₀ : Heap) (L : Addr) (C fI : Addr) (m : Str → Option Value) (v : Value) (s : Shared) (E : Value → Shared → Prop) : Prop :=
  ∃ e t dx vs, v = .ref e ∧ Fr h₀ L s.heap m ∧ K.In h₀ ∧ News h₀ L s.heap [(e, excObj C (some dx) t), (t, tupObj vs)] ∧ Fault K C fI ∧ E (.ref e) s
theorem raise_F {M : Model} {A : Around} {E : Value → Shared → Prop} {env : Env} {s : Shared} {K : Frag} {h₀ : Heap} {L C fI : Addr} {m : Str → Option Value} {Q : Flow → Shared → Prop} {x : Expr} {pos : Pos} (_F : Fr h₀ L s.heap m) (_X : K.In h₀) (_Z : Fault K C fI) (hh : A.handled = none)
    (h : wpAny M A (eval x env) (fun v s₁ => Thrown K h₀ L C fI m v s₁ E) E s) :
    wpAny M A (exec (.Raise (some x) none pos) env) Q E s := by
  rw [arm_exec_Raise]
  simp only [evalOpt, Option.map]
  refine wpAny_bind (wpAny_standAt (raiseStmt_F (P := fun v s₁ => Thrown K h₀ L C fI m v s₁ E) hh ?_ (wpAny_bind (wpAny_mono h (fun v s₁ h₁ => wpAny_bind (wpAny_standAt (wpAny_pure h₁))) fun _ _ x => x))))
  intro v s₁ hT
  obtain ⟨e, t, dx, vs, rfl, F, X, N, Z, hE⟩ := hT
  obtain ⟨nm, q, N', bs, sn, sub, ab, col, dd, k0, k1, k2, k3, k5, mN, hC, _, _⟩ := Z.mro (X.keeps F.keep)
  exact ⟨e, t, some dx, C, nm, q, N', bs, bmF, true, sn, sub, ab, col, dd, k0, k1, k2, k3, k5, _, rfl, by decide +kernel, hC, (N _ (.head _)).1, hE⟩

-- part LvFault
def FaultCall (w : World) (mean : ExcName → Option Value) (mg mb : Str → Option Value) (D U : Nat) (C : Addr) : Prop :=
  ∀ (gd : Option (List Code)) (cn : Str) (cs : Scope) (a : Addr) (ccd : Value) (cl : List (Str × Addr)) (outer : List Env) (A₀ : Around) (base h₀ : Heap) (L : Addr) (m : Str → Option Value) (s : Shared)
    (Q E : Value → Shared → Prop),
    Below A₀ base outer h₀ → Fr h₀ L s.heap m → (hd.heap_1 w.params).In h₀ →  Top hd.view_1 (looseW hd.view_1 [Str.ofString "is_sign"]) mean mg mb h₀ → cs.kind = .function →
    ∀ (ln : Int) (lt : Tok) (tx : Str) (tk : Tok),
    (∀ h' tk' e d t2, Fr h₀ L h' m → News h₀ L h' [(e, excObj C (some d) t2), (t2, tupObj [.str tx tk])] → s.heap.StaysIn h' → Q (.ref e) { s with heap := h', toks := tk' }) →
    wpAny (model PySem.Challenge.rw_xw0005_01.row.prog w) (ktrTop D U gd cn cs L a ccd cl outer) (call (.ref C) [.int ln lt, .str tx tk]) Q E s

theorem fault_call (w : World) (mean : ExcName → Option Value) (mg mb : Str → Option Value) (C fI : Addr) (Z : Fault (hd.heap_1 w.params) C fI) (I : FaultInit w mean mg mb 550 5500 C fI) 
    (hf : ∃ oI, (hd.heap_1 w.params).lookup fI = some oI ∧ oI.cls = .type "function") : FaultCall w mean mg mb 540 5400 C := by
  intro gd cn cs a ccd cl outer A₀ base h₀ L m s Q E B F X T hk ln lt tx tk hret
  obtain ⟨nm, q, N', bs, sn, sub, ab, col, dd, k0, k1, k2, k3, k5, mN, hC, hns, hi⟩ := Z.mro (X.keeps F.keep)
  obtain ⟨oI, ho, hcl⟩ := hf
  obtain ⟨hp, g, d, t, os⟩ := s
  refine exc_call PySem.F.excBase_Exception above_fault hC hns hi (X.keeps F.keep _ _ ho) hcl (fun h' e hm => ?_) (Nat.le_of_ble_eq_true rfl)
  obtain ⟨t0, he, htn, ht⟩ := hm.there
  have F' : Fr h₀ L h' m := F.keeps hm.keeps
  refine wpAny_mono (wpAny_room (d := 550) (u := 5500) ?_ ?_ (I _ _ _ _ _ _ _ A₀ base h₀ L m _ (fun r s' => r = .none ∧ Q (.ref e) s') E B F' X T hk e t0 ln lt tx tk ?_ ?_)) (fun _ _ x => x) fun _ _ x => x
  · exact Nat.le_of_ble_eq_true rfl
  · exact Nat.le_of_ble_eq_true rfl
  · intro p hp'
    rw [List.mem_singleton.mp hp']
    refine ⟨he, fun z => ?_, ?_⟩
    · obtain ⟨c, es, n, q1, _⟩ := F.ns
      have q2 := hm.new
      have z' : e = L := z
      have q3 : hp.get? e = some c := by rw [z']; exact q1
      rw [q2] at q3
      cases q3
    · cases q2 : h₀.get? e with
      | none => rfl
      | some o => have q3 := F.keep _ _ q2; rw [hm.new] at q3; cases q3
  · intro h2 tk2 d2 t2 F2 N2 k2
    exact ⟨rfl, hret h2 tk2 e d2 t2 F2 N2 (fun b o q => k2 b o (fun z => by rw [z, hm.new] at q; cases q) (hm.keeps b o q))⟩
theorem fault_use {w : World} {mean : ExcName → Option Value} {mg mb : Str → Option Value} {C : Addr} {dp un : Nat} (Z : FaultCall w mean mg mb 540 5400 C)
    {gd : Option (List Code)} {cn : Str} {cs : Scope} {a : Addr} {ccd : Value} {cl : List (Str × Addr)} {outer : List Env} {A₀ : Around} {base h₀ : Heap} {L : Addr} {m : Str → Option Value} {s : Shared}
    {Q E : Value → Shared → Prop} {ln : Int} {lt : Tok} {tx : Str} {tk : Tok} {led : List (Addr × Obj)}
    (B : Below A₀ base outer h₀) (F : Fr h₀ L s.heap m) (X : (hd.heap_1 w.params).In h₀) (T : Top hd.view_1 (looseW hd.view_1 [Str.ofString "is_sign"]) mean mg mb h₀) (hk : cs.kind = .function) (N : News h₀ L s.heap led) (hd : dp ≤ 540) (hu : un ≤ 5400)
    (ret : ∀ h' tk' e d t2, Fr h₀ L h' m → News h₀ L h' [(e, excObj C (some d) t2), (t2, tupObj [.str tx tk])] → News h₀ L h' led → Q (.ref e) { s with heap := h', toks := tk' }) :
    wpAny (model PySem.Challenge.rw_xw0005_01.row.prog w) (ktrTop dp un gd cn cs L a ccd cl outer) (call (.ref C) [.int ln lt, .str tx tk]) Q E s :=
  wpAny_room (d := 540) (u := 5400) hd hu (Z gd cn cs a ccd cl outer A₀ base h₀ L m s Q E B F X T hk ln lt tx tk (fun h' tk' e d t2 F' N' st => ret h' tk' e d t2 F' N' (fun p hp => ⟨st _ _ (N p hp).1, (N p hp).2⟩)))
theorem call_check (w : World) (mean : ExcName → Option Value) (mg mb : Str → Option Value) : FaultCall w mean mg mb 540 5400 70 :=
  fault_call w mean mg mb 70 67 (fault_check w) (check_init w mean mg mb) ⟨_, rfl, rfl⟩
theorem call_syntax (w : World) (mean : ExcName → Option Value) (mg mb : Str → Option Value) : FaultCall w mean mg mb 540 5400 51 :=
  fault_call w mean mg mb 51 48 (fault_syntax w) (syntax_init w mean mg mb) ⟨_, rfl, rfl⟩

-- part LvRefuse
local macro_rules | `(tactic| walk_at "call ref") => `(tactic| (k_here; (with_reducible show wpAny _ _ (call (Value.ref 70) _) _ _ _); k_dflt (refine' fault_use ?kZ ?k1 ?k2 ?k3 ?k5 ?kK ?k4 ?kd ?ku ?_; (case kZ => assumption); (case k1 | k2 => k_asm); (case k3 | k4 | k5 => k_asm); (case kK => exact rfl); (case kd | ku => exact Nat.le_of_ble_eq_true rfl); k_whole; intro h' tk' e' d' t2' F' E' N'; (try dsimp only))))
local macro_rules | `(tactic| walk_at "exec Raise some none") => `(tactic| (k_here; k_dflt (refine' raise_F ?F ?X ?Z ?hh ?_; (case F => k_asm); (case Z => assumption); (case X => k_asm); (case hh => rfl); k_whole)))
local macro_rules | `(tactic| walk_at "leaving ref") => `(tactic| (k_here; first | (refine' leave_raiseF ?k1 ?k2 ?k3 ?kf ?_; (case k1 | k2 | k3 => assumption); (case kf => rfl); k_whole; intro h' t' R' U'; (try dsimp only at R' U' ⊢)) | (refine' leave_onF ?k1 ?k2 ?k3 ?k4 ?kf ?_; (case k3 | k2 => assumption); (case k1 | k4 => assumption); (case kf => rfl); k_whole; intro h' R' U'; (try dsimp only at R' U' ⊢))))

theorem fr_hide {h₀ h : Heap} {L : Addr} {m : Str → Option Value} {led : List (Addr × Obj)} (F : Fr h₀ L h m) (N : News h₀ L h led) : Fr h₀ L (hideAll h (led.map (·.1))) m := by
  refine ⟨F.ns.at' (fun o q => hideAll_get _ q (fun hm => ?_)), fun b o q => hideAll_get _ (F.keep b o q) (fun hm => ?_), F.above⟩
  · obtain ⟨p, hp, e⟩ := List.mem_map.mp hm
    exact (N p hp).2.1 e
  · obtain ⟨p, hp, e⟩ := List.mem_map.mp hm
    rw [← e, (N p hp).2.2] at q
    cases q
/-- what a caller is handed when a call of its own raises the fault C -/
def Throws (base h₀ : Heap) (outer : List Env) (L : Addr) (m : Str → Option Value) (cn : Str) (cs : Scope) (a : Addr) (ccd : Value) (C : Addr) (s : Shared) (E : Value → Shared → Prop) : Prop :=
  ∀ g₂ e t vs h' tk', Fr h₀ L g₂ m → RaisedS base g₂ (envOf cn cs L a ccd :: outer) e (.ref C) t vs [] h' → g₂.UpToSlots h' → E (.ref e) { s with heap := h', toks := tk' }
def Refuse (w : World) (mean : ExcName → Option Value) (mg mb : Str → Option Value) (D U : Nat) : Prop :=
  ∀ (gd : Option (List Code)) (cn : Str) (cs : Scope) (a : Addr) (ccd : Value) (cl : List (Str × Addr)) (outer : List Env) (A₀ : Around) (base h₀ : Heap) (L : Addr) (m : Str → Option Value) (s : Shared)
    (Q E : Value → Shared → Prop),
    Below A₀ base outer h₀ → Fr h₀ L s.heap m → (hd.heap_1 w.params).In h₀ →  Top hd.view_1 (looseW hd.view_1 [Str.ofString "is_sign"]) mean mg mb h₀ → cs.kind = .function →
    ∀ (sc dx : Addr) (n : Nat) (es : List DictEntry) (tk0 : Tok) (tx : Str) (tk : Tok), News h₀ L s.heap [(sc, instObj 113 dx), (dx, dictOf es n)] → getL (Str.ofString "line") es = some (some (.int 1 tk0)) →
    Throws base h₀ outer L m cn cs a ccd 70 s E →
    wpAny (model PySem.Challenge.rw_xw0005_01.row.prog w) (ktrTop D U gd cn cs L a ccd cl outer) (call (.ref 79) [.ref sc, .str tx tk]) Q E s
set_option maxHeartbeats 40000000 in
theorem refuse_K (w : World) (mean : ExcName → Option Value) (mg mb : Str → Option Value) : Refuse w mean mg mb 530 5300 := by
  have Z := call_check w mean mg mb
  have Z2 := fault_check w
  unfold Refuse
  k_fill
  w_top off
  intro gd cn cs a ccd cl outer A₀ base h₀ L m s Q E B F X T hk sc dx n es tk0 tx tk N hline hret
  refine wpAny_call ?_
  k_dflt ktr_enter
  k_steps
  refine ⟨_, _, _, _, rfl, by assumption, by k_asm, by assumption, Z2, ?_⟩
  k_steps
  rename (_ = hideAll _ _) => hg
  exact hret _ _ _ _ _ _ (hg ▸ fr_hide F N) (by assumption) (by assumption)

-- part LvKeys
/-- a key that is an int or a text -/
def mixKind (prog : Program) (w : World) : PySem.KeyKind prog w (Int ⊕ Str) where
  is := fun k v => match k with | .inl n => (PySem.intKind prog w).is n v | .inr x => (PySem.strKind prog w).is x v
  hash := fun k => match k with | .inl n => (PySem.intKind prog w).hash n | .inr x => (PySem.strKind prog w).hash x
  inj := fun v a b ha hb => by
    rcases a with a | a <;> rcases b with b | b <;> dsimp only at ha hb
    · rw [(PySem.intKind prog w).inj _ _ _ ha hb]
    · obtain ⟨t, rfl⟩ := Value.isInt_shape (k := a) ha
      exact Bool.noConfusion (show false = true from hb)
    · obtain ⟨t, rfl⟩ := Value.isInt_shape (k := b) hb
      exact Bool.noConfusion (show false = true from ha)
    · rw [(PySem.strKind prog w).inj _ _ _ ha hb]
  byValue := fun k v h => by
    cases k
    · exact (PySem.intKind prog w).byValue _ _ h
    · exact (PySem.strKind prog w).byValue _ _ h
  pyHash := fun {A E s k v Q} hv h => by
    cases k
    · exact (PySem.intKind prog w).pyHash hv h
    · exact (PySem.strKind prog w).pyHash hv h
  eqBool := fun {A E s a b u v Q} hu hv h => by
    cases a <;> cases b <;> dsimp only at hu hv
    · exact (PySem.intKind prog w).eqBool hu hv (by simpa using h)
    · obtain ⟨t, rfl⟩ := Value.isInt_shape hu
      obtain ⟨u, rfl⟩ := Value.isStrOf_shape hv
      exact PySem.SeqAt.EqAt.int_str _ _ _ _ _ _ _ _ (by simpa using h)
    · obtain ⟨t, rfl⟩ := Value.isInt_shape hv
      obtain ⟨u, rfl⟩ := Value.isStrOf_shape hu
      exact PySem.SeqAt.EqAt.str_int _ _ _ _ _ _ _ _ (by simpa using h)
    · exact (PySem.strKind prog w).eqBool hu hv (by simpa using h)
  «strs» := fun k x t v h => by
    cases k
    · exact (PySem.intKind prog w).strs _ _ _ _ h
    · exact (PySem.strKind prog w).strs _ _ _ _ h
/-- the key (number, kind) of a node -/
abbrev nodeKey (num : Int) (kind : Str) : List (Int ⊕ Str) := [.inl num, .inr kind]
theorem isKey {prog : Program} {w : World} {h : Heap} {q : Addr} {num : Int} {kind : Str} {t1 t2 : Tok} (e : h.get? q = some (tupObj [.int num t1, .str kind t2])) : IsTupleKey (mixKind prog w) h (nodeKey num kind) q :=
  ⟨_, _, _, e, rfl, rfl, .cons (by simp [mixKind, PySem.intKind, Value.isInt]) (.cons (by simp [mixKind, PySem.strKind, Value.isStrOf]) .nil)⟩

section
variable {prog : Program} {w : World} {A : Around} {E : Value → Shared → Prop} {s : Shared} {d it : Addr} {es : Array DictEntry} {ep i : Nat}
abbrev dictA (es : Array DictEntry) (ep : Nat) : Obj := { cls := .type "dict", data := .dict es ep }
abbrev keyIt (d : Addr) (i n ep : Nat) : Obj := { cls := .type "dict_keyiterator", data := .fields #[.ref d, .int i 0, .int n 0, .int ep 0] }
/-- the iterator over the keys of a dict, whatever its keys are -/
theorem pyIter_keys {Q : Value → Shared → Prop} (hd : (d == sysModules) = false) (ho : s.heap.get? d = some (dictA es ep)) (hQ : Q (.ref s.heap.objs.size) { s with heap := s.heap.push (keyIt d 0 es.size ep) }) :
    wpAny (model prog w) A (pyIter (.ref d)) Q E s := by
  have hT : s.TypeIs (.ref d) "dict" := ⟨_, ho, rfl⟩
  refine wpAny_pyIter_slot hT PySem.F.slot_dict_iter (wpAny_call_entry PySem.F.slot_dict_iter hT PySem.F.entry_dict_iter (wpAny_bind (wpAny_bind (wpAny_notOrdered_dict hT (wpAny_pure ?_)))) (PySem.F.args_dict_iter_1 _))
  show wpAny _ _ (Builtin.Dict.showsAll d >>= _) _ _ s
  unfold Builtin.Dict.showsAll
  rw [if_neg (by rw [hd]; exact Bool.false_ne_true)]
  exact wpAny_bind (wpAny_pure (wpAny_bind (wpAny_dictEntries ho rfl (wpAny_bind (wpAny_dictEpoch ho rfl (wpAny_bind (wpAny_newObj_type (wpAny_pure ⟨_, rfl, "dict_keyiterator", _, ⟨_, Heap.get?_push_size _ rfl, rfl⟩, PySem.F.slot_dict_keyiterator_next.lookup, hQ⟩))))))))

theorem keyIt_type (hit : s.heap.get? it = some (keyIt d i es.size ep)) : s.TypeIs (.ref it) "dict_keyiterator" := ⟨_, hit, rfl⟩
theorem next_keys {e : DictEntry} {Q : Option Value → Shared → Prop} (hit : s.heap.get? it = some (keyIt d i es.size ep)) (ho : s.heap.get? d = some (dictA es ep)) (hx : es[i]? = some e)
    (hQ : ∀ h', h'.get? it = some (keyIt d (i + 1) es.size ep) → Heap.SameBut it s.heap h' → Q (some e.key) { s with heap := h' }) :
    wpAny (model prog w) A (pyNext (.ref it)) Q E s := by
  have hT := keyIt_type hit
  unfold pyNext
  refine wpAny_bind (wpAny_attempt (wpAny_callSpecial?_slot (name := Str.ofString "__next__") hT PySem.F.slot_dict_keyiterator_next
    (wpAny_call_entry PySem.F.slot_dict_keyiterator_next hT PySem.F.entry_dict_keyiterator_next ?_ (PySem.F.args_dict_keyiterator_next_1 _))))
  refine wpAny_bind (wpAny_pure (wpAny_bind (wpAny_bind (wpAny_bind ?_))))
  first | refine wpAny_typeNameOfWhole_keyiter hT (wpAny_pure ?_) | refine wpAny_typeNameOf_keyiter hT (wpAny_pure ?_)
  refine wpAny_bind (wpAny_fieldsOf hit rfl ?_)
  have hown : Builtin.Dict_items.ownsTuple "dict_keyiterator" = false := by decide
  simp only [hown, Bool.false_eq_true, if_false]
  show wpAny _ _ (if (Value.ref d == Value.none) = true then _ else _) _ _ s
  rw [if_neg (show ¬ ((Value.ref d == Value.none) = true) from Bool.false_ne_true)]
  refine wpAny_bind (wpAny_pure (wpAny_bind (wpAny_dictEntries ho rfl ?_)))
  rw [if_neg (by simp)]
  refine wpAny_bind (wpAny_pure (wpAny_bind (wpAny_dictEpoch ho rfl ?_)))
  rw [if_neg (by simp)]
  refine wpAny_pure ?_
  simp only [show ¬ ((i : Int) < 0) from by omega, if_false, Int.toNat_natCast, hx]
  refine wpAny_bind ?_
  first | refine wpAny_bind (wpAny_typeNameOfWhole_keyiter hT (wpAny_pure ?_)) | refine wpAny_bind (wpAny_typeNameOf_keyiter hT (wpAny_pure ?_))
  refine wpAny_bind (wpAny_isOneOf_keyiter hT ?_)
  refine wpAny_bind (wpAny_setField hit rfl (by rw [hown]; exact Nat.le_of_ble_eq_true rfl) ?_)
  have hit' : (s.heap.update it (Obj.mapFields (·.setIfInBounds 1 (rawInt ((i : Int) + 1))))).get? it = some (keyIt d (i + 1) es.size ep) :=
    (Heap.get?_update_self _ hit (Obj.isFreed_of_fields (Obj.data_mapFields rfl _))).trans (by simp [Obj.mapFields, rawInt])
  refine wpAny_bind (wpAny_holding ?_)
  refine wpAny_bind (wpAny_isOneOf_keyiter (s := { s with heap := s.heap.update it (Obj.mapFields (·.setIfInBounds 1 (rawInt ((i : Int) + 1)))) }) (keyIt_type hit') ?_)
  exact wpAny_pure (wpAny_pure ⟨_, rfl, wpAny_pure (hQ _ hit' (Heap.SameBut.update ..))⟩)

theorem end_keys {Q : Option Value → Shared → Prop} (hh : A.handled = none) (hit : s.heap.get? it = some (keyIt d i es.size ep)) (ho : s.heap.get? d = some (dictA es ep)) (hx : es.size ≤ i)
    (hQ : ∀ h', Heap.ExtBut it s.heap h' → Q none { s with heap := h' }) : wpAny (model prog w) A (pyNext (.ref it)) Q E s := by
  have hT := keyIt_type hit
  unfold pyNext
  refine wpAny_bind (wpAny_attempt (wpAny_callSpecial?_slot (name := Str.ofString "__next__") hT PySem.F.slot_dict_keyiterator_next
    (wpAny_call_entry PySem.F.slot_dict_keyiterator_next hT PySem.F.entry_dict_keyiterator_next ?_ (PySem.F.args_dict_keyiterator_next_1 _))))
  refine wpAny_bind (wpAny_pure (wpAny_bind (wpAny_bind (wpAny_bind ?_))))
  first | refine wpAny_typeNameOfWhole_keyiter hT (wpAny_pure ?_) | refine wpAny_typeNameOf_keyiter hT (wpAny_pure ?_)
  refine wpAny_bind (wpAny_fieldsOf hit rfl ?_)
  have hown : Builtin.Dict_items.ownsTuple "dict_keyiterator" = false := by decide
  simp only [hown, Bool.false_eq_true, if_false]
  show wpAny _ _ (if (Value.ref d == Value.none) = true then _ else _) _ _ s
  rw [if_neg (show ¬ ((Value.ref d == Value.none) = true) from Bool.false_ne_true)]
  refine wpAny_bind (wpAny_pure (wpAny_bind (wpAny_dictEntries ho rfl ?_)))
  rw [if_neg (by simp)]
  refine wpAny_bind (wpAny_pure (wpAny_bind (wpAny_dictEpoch ho rfl ?_)))
  rw [if_neg (by simp)]
  refine wpAny_pure ?_
  simp only [show ¬ ((i : Int) < 0) from by omega, if_false, Int.toNat_natCast, Array.getElem?_eq_none hx]
  refine wpAny_bind ?_
  first | refine wpAny_bind (wpAny_typeNameOfWhole_keyiter hT (wpAny_pure ?_)) | refine wpAny_bind (wpAny_typeNameOf_keyiter hT (wpAny_pure ?_))
  refine wpAny_bind (wpAny_setField hit rfl (by rw [hown]; exact Nat.le_of_ble_eq_true rfl) ?_)
  refine wpAny_bind (m := newExc _ _) ?_
  simp only [newExc, newTuple]
  refine wpAny_bind (wpAny_newObj_type (wpAny_bind (m := firstArgMember _ _) (wpAny_of_eq (a := Value.none) (by first | rfl | (simp only [firstArgMember]; rfl)) (wpAny_newObj_type ?_ (by size_fits)))) (by size_fits))
  simp only [raiseNew]
  refine wpAny_bind (wpAny_handled ?_)
  rw [show A.in1.handled = none from hh]
  refine wpAny_bind (wpAny_pure (wpAny_throw ?_))
  refine wpAny_bind (wpAny_isInstance (T := "StopIteration") (b := true) ⟨_, Heap.get?_push_size _ rfl, rfl⟩ isSubtype_stop ?_)
  exact wpAny_pure (hQ _ (((Heap.SameBut.update ..).extBut.push _).push _))

theorem iter_self {Q : Value → Shared → Prop} (hit : s.heap.get? it = some (keyIt d i es.size ep)) (h : Q (.ref it) s) : wpAny (model prog w) A (pyIter (.ref it)) Q E s :=
  wpAny_pyIter_keyiter (d := d) (i := i) (n := es.size) (ep := ep) ⟨_, hit, rfl, rfl⟩ h
/-- a walk over the keys of a dict -/
theorem walkKeys (hh : A.handled = none) (I d : Addr) (hne : d ≠ I) (es : Array DictEntry) (ep : Nat) :
    Walks prog w A I [I, d] [I] es.size (fun i v => ∃ e, es[i]? = some e ∧ v = e.key) (fun i h => h.get? I = some (keyIt d i es.size ep) ∧ h.get? d = some (dictA es ep)) where
  sub := fun b hb => by simp at hb; simp [hb]
  frame := fun _ _ _ st hk => ⟨hk I (by simp) _ st.1, hk d (by simp) _ st.2⟩
  item := fun i s Q E hi st hQ => by
    refine next_keys st.1 st.2 (e := es[i]) (by simp [hi]) fun h' hit' hs' => ?_
    exact hQ _ h' s.toks ⟨es[i], by simp [hi], rfl⟩ ⟨hit', (hs'.2 d hne).trans st.2⟩ fun b o hb e => (hs'.2 b (fun z => hb (by simp [z]))).trans e
  done := fun s Q E st hQ => end_keys hh st.1 st.2 (Nat.le_refl _) fun h' he' => hQ h' s.toks fun b o hb e => he' b o (fun z => hb (by simp [z])) e
  self := fun _ _ _ _ st hQ => iter_self st.1 hQ
end

-- part LvLoop
def LedEnd (h₀ : Heap) (L I : Addr) (J : (Str → Option Value) → List (Addr × Obj) → Prop) (own : List (Addr × Obj)) (s₁ s₂ : Shared) : Prop :=
  ∃ h' tk m' news' nx, s₂ = { s₁ with heap := h', toks := tk } ∧ Fr h₀ L h' m' ∧ News h₀ L h' news' ∧ (∀ p ∈ nx, p ∈ news') ∧ (∀ p ∈ own, p ∈ news') ∧ (∀ p ∈ nx, p.1 ≠ I) ∧ J m' nx
def LedPost (h₀ : Heap) (L I : Addr) (J : (Str → Option Value) → List (Addr × Obj) → Prop) (own : List (Addr × Obj)) (s₁ : Shared) (Q : Flow → Shared → Prop) (f : Flow) (s₂ : Shared) : Prop :=
  match f with
  | .ret v => Q (.ret v) s₂
  | .brk => Q .next s₂
  | _ => LedEnd h₀ L I J own s₁ s₂
section
variable {prog : Program} {w : World} {A : Around} {E : Value → Shared → Prop} {s s₂ : Shared} {env : Env} {h₀ : Heap} {x : Str} {body : List Stmt} {Q : Flow → Shared → Prop}
/-- a loop over any walk, with its own invariant; keep: what the walk reads, besides its iterator -/
theorem loop_any {I : Addr} {keep : List (Addr × Obj)} {n : Nat} {P : Nat → Value → Prop} {St : Nat → Heap → Prop} {m₀ : Str → Option Value} {news : List (Addr × Obj)}
    (W : Walks prog w A I (I :: keep.map (·.1)) [I] n P St) (hIo : ∀ i h, St i h → ∃ o, h.get? I = some o) (hst : St 0 s₂.heap) (F : Fr h₀ env.locals s₂.heap m₀) (N : News h₀ env.locals s₂.heap news)
    (hkeep : ∀ p ∈ keep, p ∈ news) (hK : ∀ i h, St i h → ∀ p ∈ keep, h.get? p.1 = some p.2) (hI : h₀.get? I = none) (hIL : I ≠ env.locals) (hnI : ∀ p ∈ news, p.1 ≠ I)
    (J : Nat → (Str → Option Value) → List (Addr × Obj) → Prop) (hj : J 0 m₀ news)
    (turn : ∀ i v m₁ nx h tk oI, i < n → P i v → J i m₁ nx → (∀ p ∈ nx, p.1 ≠ I) → Fr h₀ env.locals h (fun y => if y = x then some v else m₁ y) → News h₀ env.locals h ((I, oI) :: keep ++ nx) →
      wpAny (model prog w) A (execs body env) (LedPost h₀ env.locals I (J (i + 1)) ((I, oI) :: keep) { s₂ with heap := h, toks := tk } Q) E { s₂ with heap := h, toks := tk })
    (done : ∀ m₁ nx h tk, J n m₁ nx → Fr h₀ env.locals h m₁ → News h₀ env.locals h nx → Q .next { s₂ with heap := h, toks := tk }) :
    LoopAtV prog w A h₀ env x body Q E (.ref I) s₂ := by
  refine ⟨I, _, _, n, P, St, m₀, news, J, rfl, W, ?_, ?_, ?_, hst, F, N, hj, ?_, ?_⟩
  · intro hm
    rcases List.mem_cons.mp hm with e | hm
    · exact hIL e.symm
    · obtain ⟨p, hp, e⟩ := List.mem_map.mp hm
      exact (N p (hkeep p hp)).2.1 e
  · intro b hb
    rw [List.mem_singleton.mp hb]
    exact hI
  · intro p hp hm
    exact hnI p hp (List.mem_singleton.mp hm)
  · rintro i v m₁ nx s₁ own ⟨h, tk, rfl⟩ hi hP hJ hoff hown hget hmem hst' F₁ N₁
    obtain ⟨oI, hoI⟩ := hIo _ _ hst'
    have hIm : (I, oI) ∈ own := hmem _ (.head _) hI oI hoI
    have hkm : ∀ p ∈ keep, p ∈ own := fun p hp => hmem _ (.tail _ (List.mem_map_of_mem hp)) (N p (hkeep p hp)).2.2 _ (hK _ _ hst' p hp)
    have hall : ∀ p ∈ own, p ∈ (I, oI) :: keep := fun p hp => by
      rcases List.mem_cons.mp (hown p hp) with e | hm
      · have z := hget p hp
        rw [e, hoI] at z
        rw [show p = (I, oI) from Prod.ext e (Option.some.inj z).symm]
        exact .head _
      · obtain ⟨q, hq, e⟩ := List.mem_map.mp hm
        have z := hget p hp
        rw [← e, hK _ _ hst' q hq] at z
        rw [show p = q from Prod.ext e.symm (Option.some.inj z).symm]
        exact .tail _ hq
    have off : ∀ p ∈ nx, p.1 ≠ I := fun p hp e => hoff p hp (List.mem_singleton.mpr e)
    have N₂ : News h₀ env.locals h ((I, oI) :: keep ++ nx) := fun p hp => N₁ p (by
      rcases List.mem_append.mp hp with hp | hp
      · rcases List.mem_cons.mp hp with rfl | hp
        · exact List.mem_append_left _ hIm
        · exact List.mem_append_left _ (hkm p hp)
      · exact List.mem_append_right _ hp)
    refine wpAny_mono (turn i v m₁ nx h tk oI hi hP hJ off F₁ N₂) (fun f s₃ p => ?_) fun _ _ e => e
    have fin : LedEnd h₀ env.locals I (J (i + 1)) ((I, oI) :: keep) { s₂ with heap := h, toks := tk } s₃ → LoopStepU h₀ env.locals [I] own (J (i + 1)) { s₂ with heap := h, toks := tk } .next s₃ := by
      rintro ⟨h', tk', m', news', nx', e, F', N', hn, ho, ha, hm⟩
      exact ⟨rfl, h', tk', m', nx', e, F', fun p hp => N' p ((List.mem_append.mp hp).elim (fun q => ho p (hall p q)) (hn p)), fun p hp hq => ha p hp (List.mem_singleton.mp hq), hm⟩
    cases f with
    | ret v => exact .ret p
    | brk => exact .brk p
    | next => exact .next (fin p)
    | cont => exact .cont (fin p)
  · rintro h' tk m' news' F' N' _ hJ
    exact done m' news' h' tk hJ F' N'

/-- for x in a list of the ledger -/
theorem loop_list {l : Addr} {its : Array Value} {c : Nat} {m₀ : Str → Option Value} {news : List (Addr × Obj)} (J : Nat → (Str → Option Value) → List (Addr × Obj) → Prop) (hh : A.handled = none)
    (F : Fr h₀ env.locals s.heap m₀) (N : News h₀ env.locals s.heap news) (hl : (l, listOf its c) ∈ news) (hj : J 0 m₀ news)
    (turn : ∀ I i v m₁ nx h tk oI, its[i]? = some v → J i m₁ nx → (∀ p ∈ nx, p.1 ≠ I) → I ≠ l → Fr h₀ env.locals h (fun y => if y = x then some v else m₁ y) → News h₀ env.locals h ((I, oI) :: (l, listOf its c) :: nx) →
      wpAny (model prog w) A (execs body env) (LedPost h₀ env.locals I (J (i + 1)) [(I, oI), (l, listOf its c)] { s with heap := h, toks := tk } Q) E { s with heap := h, toks := tk })
    (done : ∀ m₁ nx h tk, J its.size m₁ nx → Fr h₀ env.locals h m₁ → News h₀ env.locals h nx → Q .next { s with heap := h, toks := tk }) :
    wpAny (model prog w) A (pyIter (.ref l)) (fun it s₂ => LoopAtV prog w A h₀ env x body Q E it s₂) E s := by
  have hls : s.heap.IsList l its := ⟨_, (N _ hl).1, rfl, _, rfl⟩
  have hlt : l < s.heap.objs.size := Heap.lt_size (N _ hl).1
  refine wpAny_pyIter_list hls ?_
  have up : ∀ b o, s.heap.get? b = some o → (s.heap.push { cls := .type "list_iterator", data := .fields #[.ref l, .int 0 0] }).get? b = some o := fun b o e => Heap.get?_push_of_some _ e
  have W := Walks.list (prog := prog) (w := w) hh s.heap.objs.size l (Nat.ne_of_lt hlt) its
  have W' : Walks prog w A s.heap.objs.size (s.heap.objs.size :: [(l, listOf its c)].map (·.1)) [s.heap.objs.size] its.size (fun i v => its[i]? = some v) (fun i h => h.IsListIter s.heap.objs.size l i ∧ h.get? l = some (listOf its c)) :=
    { sub := W.sub
      frame := fun i h h' st hk => ⟨st.1.at fun o e => hk _ (.head _) o e, hk _ (.tail _ (.head _)) _ st.2⟩
      item := fun i s' Q E hi st hQ => W.item i s' Q E hi ⟨st.1, ⟨_, st.2, rfl, _, rfl⟩⟩ fun v h' tk hP hst hk => hQ v h' tk hP ⟨hst.1, hk _ _ (fun z => Nat.ne_of_lt hlt (List.mem_singleton.mp z)) st.2⟩ hk
      done := fun s' Q E st hQ => W.done s' Q E ⟨st.1, ⟨_, st.2, rfl, _, rfl⟩⟩ hQ
      self := fun i s' Q E st hQ => W.self i s' Q E ⟨st.1, ⟨_, st.2, rfl, _, rfl⟩⟩ hQ }
  exact loop_any W' (fun i h st => by obtain ⟨o, e, _⟩ := st.1; exact ⟨o, e⟩) ⟨⟨_, Heap.get?_push_size _ rfl, rfl, rfl⟩, up _ _ (N _ hl).1⟩ (F.keeps up) (N.grown up)
    (fun p hp => by rw [List.mem_singleton.mp hp]; exact hl) (fun i h st p hp => by rw [List.mem_singleton.mp hp]; exact st.2) (next_is_new F) (Ne.symm (Nat.ne_of_lt F.ns.lt)) (fun p hp => Nat.ne_of_lt (Heap.lt_size (N p hp).1)) J hj
    (fun i v m₁ nx h tk oI _ hP hJ off F₁ N₁ => turn _ i v m₁ nx h tk oI hP hJ off (Ne.symm (Nat.ne_of_lt hlt)) F₁ N₁) done
/-- for x in a range -/
theorem loop_range {r : Addr} {a b : Int} {t u v : Tok} {n : Nat} {m₀ : Str → Option Value} {news : List (Addr × Obj)} (J : Nat → (Str → Option Value) → List (Addr × Obj) → Prop) (hh : A.handled = none)
    (hr : IsRange s.heap r a b 1 t u v) (hsm : Builtin.Range.small a b 1 = true) (hn : Builtin.Range.rangeSize a b 1 = ((n : Nat) : Int))
    (F : Fr h₀ env.locals s.heap m₀) (N : News h₀ env.locals s.heap news) (hj : J 0 m₀ news)
    (turn : ∀ I i t m₁ nx h tk oI, i < n → J i m₁ nx → (∀ p ∈ nx, p.1 ≠ I) → Fr h₀ env.locals h (fun y => if y = x then some (.int (a + (i : Int)) t) else m₁ y) → News h₀ env.locals h ((I, oI) :: nx) →
      wpAny (model prog w) A (execs body env) (LedPost h₀ env.locals I (J (i + 1)) [(I, oI)] { s with heap := h, toks := tk } Q) E { s with heap := h, toks := tk })
    (done : ∀ m₁ nx h tk, J n m₁ nx → Fr h₀ env.locals h m₁ → News h₀ env.locals h nx → Q .next { s with heap := h, toks := tk }) :
    wpAny (model prog w) A (pyIter (.ref r)) (fun it s₂ => LoopAtV prog w A h₀ env x body Q E it s₂) E s := by
  refine wpAny_pyIter_range hr hsm ?_
  refine loop_any (keep := []) (LCg.range_walks hh a n) (fun i h st => ⟨_, st⟩) (by show IsRangeIter _ _ _ _ _; rw [hn]; simpa using Heap.get?_push_size _ rfl) (F.keeps fun _ _ e => Heap.get?_push_of_some _ e) (N.grown fun _ _ e => Heap.get?_push_of_some _ e)
    (fun p hp => nomatch hp) (fun i h st p hp => nomatch hp) (next_is_new F) (Ne.symm (Nat.ne_of_lt F.ns.lt)) (fun p hp => Nat.ne_of_lt (Heap.lt_size (N p hp).1)) J hj ?_ done
  rintro i v m₁ nx h tk oI hi ⟨t, rfl⟩ hJ off F₁ N₁
  exact turn _ i t m₁ nx h tk oI hi hJ off F₁ N₁
end

-- part LvComp
section
variable {prog : Program} {w : World} {A : Around} {E : Value → Shared → Prop} {s : Shared} {h₀ : Heap} {L : Addr} {m : Str → Option Value} {env : Env}
theorem keys_st {I d : Addr} {es : Array DictEntry} {ep : Nat} : ∀ i (h h' : Heap) (o : Obj) (nw : List (Addr × Obj)), (h.get? I = some (keyIt d i es.size ep) ∧ h.get? d = some (dictA es ep)) → h.get? I = some o → h'.get? I = some o →
    (∀ b o, h₀.get? b = some o → h'.get? b = some o) → News h₀ L h' nw → (d, dictA es ep) ∈ nw → (h'.get? I = some (keyIt d i es.size ep) ∧ h'.get? d = some (dictA es ep)) :=
  fun i h h' o nw st e e' _ N S => ⟨by rw [e', ← e]; exact st.1, (N _ S).1⟩
/-- y = [elt for x in d]: over the keys of a dict -/
theorem assign_keys {elt iter : Expr} {x y : Str} {px py : Pos} {scope : Scope} {cl : List (Str × Addr)} {pos spos : Pos} {Q : Flow → Shared → Prop} (_F₀ : Fr h₀ L s.heap m) (hLe : env.locals = L)
    (hsw : swapsWith (.ListComp elt [⟨.Name x px, iter, [], 0⟩] scope pos) (some (.Name y py)) spos.line env = pure true)
    (hclos : closureFor scope env = pure cl) (hcell : ∀ z ∈ scope.names, z.2 ≠ .cell) (hkind : scope.kind = .function)
    (hnames : ∀ z ∈ scope.names, z.2 = .local → scope.names.lookup z.1 = some .local) (hx : scope.names.lookup x = some .local)
    (hy : env.kindOf y = some .local) (hp : (env.scope.kind == .class || (env.scope.kind == .module && env.locals != env.globals)) = false)
    (h : wpAny (model prog w) A (eval iter env) (fun xv s₁ => ∃ d es ep news, xv = .ref d ∧ A.handled = none ∧ Fr h₀ L s₁.heap m ∧ News h₀ L s₁.heap news ∧ (d, dictA es ep) ∈ news ∧ (d == sysModules) = false ∧ es.size ≤ sizeLine ∧
      ∀ g, LCg.CompRest prog w A h₀ L m env elt x scope cl { s₁ with heap := g } (fun nw => (d, dictA es ep) ∈ nw) (fun i v => ∃ e, es[i]? = some e ∧ v = e.key) (LCg.FinA h₀ L m { s₁ with heap := g } y Q) es.size 0 [] news) E s)
    (hs : ∀ x, foldedSetIterable iter env x = pure x := by intro _; rfl) :
    wpAny (model prog w) A (exec (.Assign [.Name y py] (.ListComp elt [⟨.Name x px, iter, [], 0⟩] scope pos) spos) env) Q E s := by
  subst hLe
  rw [exec_Assign_Name_used _ _ _ _ hsw]
  refine wpAny_bind (wpAny_standAt (wpAny_bind ?_))
  show wpAny _ A (do let _ ← comprehension (.ListComp elt [⟨.Name x px, iter, [], 0⟩] scope pos) scope env _ (newList []) false (eval iter env) (some (assign (.Name y py) env))) _ _ s
  refine wpAny_bind (wpAny_mono (wpAny_comprehension_free (use := some (assign (.Name y py) env)) (Q := fun _ s' => Q .next s') rfl hs hclos hkind hnames
    (wpAny_mono h (fun xv s₁ h₁ => ?_) fun _ _ e => e)) (fun _ s' hq => wpAny_pure (wpAny_pure hq)) fun _ _ e => e)
  obtain ⟨d, es, ep, news, rfl, hh, F, N, S, lo, hsz, R⟩ := h₁
  have hlt : d < s₁.heap.objs.size := Heap.lt_size (N _ S).1
  refine pyIter_keys lo (N _ S).1 ?_
  have up : ∀ b o, s₁.heap.get? b = some o → (s₁.heap.push (keyIt d 0 es.size ep)).get? b = some o := fun b o e => Heap.get?_push_of_some _ e
  refine LCg.block_U (walkKeys hh s₁.heap.objs.size d (Nat.ne_of_lt hlt) es ep) hsz (fun i h st => ⟨_, st.1⟩) keys_st hcell hkind hx ⟨Heap.get?_push_size _ rfl, up _ _ (N _ S).1⟩ (fun b hb => ?_)
    (F.keeps up) (N.grown up) (Nat.ne_of_lt F.ns.lt) (next_is_new F) (fun p hp => Nat.ne_of_lt (Heap.lt_size (N p hp).1)) S (R _) ?_
  · show b < (s₁.heap.push _).objs.size
    rw [Heap.size_push]
    rcases List.mem_cons.mp hb with rfl | hb
    · exact Nat.lt_succ_self _
    · rw [List.mem_singleton.mp hb]; exact Nat.lt_succ_of_lt hlt
  · intro D C h' tk m' ys news' F' N' o1 hn hC₀ hD₀ hCL hDL hCD offC fin
    show wpAny _ A (assign (.Name y py) env (.ref D)) _ _ _
    refine wpAny_assign_Name (wpAny_storeName_local hy F'.ns (fun h₂ hn₂ hs₂ => ?_) hp)
    have hL₀ : h₀.get? env.locals = none := Heap.get?_none_of_le F'.above
    have F₂ : Fr h₀ env.locals h₂ (fun z => if z = y then some (.ref D) else m z) := ⟨hn₂, fun b o e => hs₂.extBut b o (fun q => by rw [q, hL₀] at e; cases e) (F'.keep b o e), F'.above⟩
    refine ⟨m', hn.sameBut hs₂ hCL, fun h'' hs'' => fin D h'' _ (F₂.change hs'' hCL hC₀) (fun p hp => ?_) o1⟩
    have z : h₂.get? p.1 = some p.2 := hs₂.extBut _ _ (N' p hp).2.1 (N' p hp).1
    refine ⟨hs''.extBut _ _ ?_ z, (N' p hp).2⟩
    rcases List.mem_cons.mp hp with rfl | hp
    · exact Ne.symm hCD
    · exact offC p hp
end

abbrev tKind (prog : Program) (w : World) := tupleKind (mixKind prog w)
abbrev Ent := List (Int ⊕ Str) × Addr × Value
/-- a dict of the ledger whose keys are pairs (number, kind) of the ledger -/
structure KnownIs (prog : Program) (w : World) (news : List (Addr × Obj)) (d : Addr) (es : Array DictEntry) (ep : Nat) (xs : List Ent) : Prop where
  mem : (d, dictA es ep) ∈ news
  ent : es.toList = xs.map (entryOfKey (tKind prog w))
  keys : ∀ x ∈ xs, ∃ num kind t1 t2, x.1 = nodeKey num kind ∧ (x.2.1, tupObj [.int num t1, .str kind t2]) ∈ news
  nodup : (xs.map (·.1)).Nodup
section
variable {prog : Program} {w : World} {A : Around} {E : Value → Shared → Prop} {s : Shared} {h₀ h : Heap} {L d : Addr} {m : Str → Option Value} {news : List (Addr × Obj)} {es : Array DictEntry} {ep : Nat} {xs : List Ent}
theorem KnownIs.isKey (K : KnownIs prog w news d es ep xs) (N : News h₀ L h news) : ∀ x ∈ xs, (tKind prog w).is h x.1 x.2.1 := fun x hx => by
  obtain ⟨num, kind, t1, t2, e, hm⟩ := K.keys x hx
  rw [e]
  exact Mine.isKey (N _ hm).1
theorem KnownIs.dict (K : KnownIs prog w news d es ep xs) (N : News h₀ L h news) : h.DictOfH (tKind prog w) d xs :=
  ⟨_, es, ep, (N _ K.mem).1, ⟨rfl, rfl, rfl⟩, rfl, K.ent, K.isKey N, K.nodup⟩
theorem KnownIs.mono {news' : List (Addr × Obj)} (K : KnownIs prog w news d es ep xs) (k : ∀ p ∈ news, p ∈ news') : KnownIs prog w news' d es ep xs :=
  ⟨k _ K.mem, K.ent, fun x hx => by obtain ⟨num, kind, t1, t2, e, hm⟩ := K.keys x hx; exact ⟨num, kind, t1, t2, e, k _ hm⟩, K.nodup⟩
/-- known[key] where key is the i-th key -/
theorem KnownIs.get {i : Nat} {e : DictEntry} {Q : Value → Shared → Prop} (K : KnownIs prog w news d es ep xs) (N : News h₀ L s.heap news) (hu : A.units + 1 < cLine) (he : es[i]? = some e)
    (hQ : ∀ x tk, xs[i]? = some x → Q x.2.2 { s with toks := tk }) : wpAny (model prog w) A (getItem (.ref d) e.key) Q E s := by
  have z := entry_at K.ent i
  rw [he] at z
  cases hx : xs[i]? with
  | none => rw [hx] at z; cases z
  | some x =>
    rw [hx] at z
    cases z
    exact wpAny_getItem_heap (tupleKind_room_in1 hu) (K.isKey N x (List.mem_of_getElem? hx)) (K.dict N) (atKey_of_get K.nodup hx) (hQ x _ hx)
/-- known[key] = v -/
theorem KnownIs.set {n0 : List (Addr × Obj)} {q : Addr} {num : Int} {kind : Str} {t1 t2 : Tok} {v : Value} {Q : Unit → Shared → Prop} (K : KnownIs prog w ((d, dictA es ep) :: n0) d es ep xs) (sub : ∀ p ∈ n0, p ∈ news) (F : Fr h₀ L s.heap m) (N : News h₀ L s.heap ((d, dictA es ep) :: news))
    (off : ∀ p ∈ news, p.1 ≠ d) (hq : (q, tupObj [.int num t1, .str kind t2]) ∈ n0) (hu : A.units + 1 < cLine) (hsz : xs.length ≤ sizeLine)
    (hQ : ∀ h' tk es' ep', Fr h₀ L h' m → News h₀ L h' ((d, dictA es' ep') :: news) → KnownIs prog w ((d, dictA es' ep') :: n0) d es' ep' (storedH xs (nodeKey num kind) q v) → Q () { s with heap := h', toks := tk }) :
    wpAny (model prog w) A (setItem (.ref d) (.ref q) v) Q E s := by
  have N0 : News h₀ L s.heap ((d, dictA es ep) :: n0) := fun p hp => N p (by
    rcases List.mem_cons.mp hp with rfl | hp
    · exact .head _
    · exact .tail _ (sub _ hp))
  refine wpAny_setItem_heap (hsz := hsz) (tupleKind_room_in1 hu) (k := nodeKey num kind) (Mine.isKey (N0 _ (.tail _ hq)).1) (K.dict N0) fun h' hm' hs' => ?_
  have Nd := N _ (.head _)
  have F' : Fr h₀ L h' m := ⟨F.ns.at' fun o e => (hs'.2 L (fun z => Nd.2.1 z.symm)).trans e, fun b o e => (hs'.2 b (fun z => by rw [z, Nd.2.2] at e; cases e)).trans (F.keep b o e), F.above⟩
  obtain ⟨o, es', ep', ho, hc, hd, he, his, hn⟩ := hm'
  have e : o = dictA es' ep' := by
    obtain ⟨c, di, dt, sl⟩ := o
    obtain ⟨h1, h2, h3⟩ := hc
    dsimp only at h1 h2 h3 hd
    rw [h1, h2, h3, hd]
  refine hQ h' _ es' ep' F' (fun p hp => ?_) ⟨.head _, he, fun x hx => ?_, hn⟩
  · rcases List.mem_cons.mp hp with rfl | hp
    · exact ⟨e ▸ ho, Nd.2⟩
    · exact ⟨(hs'.2 _ (off p hp)).trans (N p (.tail _ hp)).1, (N p (.tail _ hp)).2⟩
  · rcases mem_storedH hx with ⟨y, hy, h1, h2⟩ | ⟨h1, h2⟩
    · obtain ⟨num, kind, t1, t2, e, hm⟩ := K.keys y hy
      refine ⟨num, kind, t1, t2, h1.trans e, .tail _ ?_⟩
      rw [h2]
      rcases List.mem_cons.mp hm with z | hm
      · exact absurd (congrArg (fun p : Addr × Obj => p.2.data) z) (by simp)
      · exact hm
    · exact ⟨num, kind, t1, t2, h1, .tail _ (by rw [h2]; exact hq)⟩
end

-- part LvLev
section
variable {T : Nat → Addr} {key : Nat → List (Int ⊕ Str)}
/-- what the dict known holds: the nodes js, each by its key -/
def XsOf (T : Nat → Addr) (key : Nat → List (Int ⊕ Str)) (xs : List Ent) (js : List Nat) : Prop := xs.map (fun x => (x.1, x.2.2)) = js.map fun j => (key j, Value.ref (T j))
theorem XsOf.nil : XsOf T key [] [] := rfl
theorem XsOf.mem {xs : List Ent} {js : List Nat} (h : XsOf T key xs js) : ∀ x ∈ xs, ∃ j ∈ js, x.1 = key j ∧ x.2.2 = .ref (T j) := fun x hx => by
  have z : (x.1, x.2.2) ∈ xs.map (fun x => (x.1, x.2.2)) := List.mem_map_of_mem hx
  rw [h] at z
  obtain ⟨j, hj, e⟩ := List.mem_map.mp z
  exact ⟨j, hj, (congrArg Prod.fst e).symm, (congrArg Prod.snd e).symm⟩
theorem XsOf.keys {xs : List Ent} {js : List Nat} (h : XsOf T key xs js) : xs.map (·.1) = js.map key := by
  have z := congrArg (List.map Prod.fst) h
  simpa [List.map_map, Function.comp_def] using z
theorem XsOf.vals {xs : List Ent} {js : List Nat} (h : XsOf T key xs js) : xs.map (·.2.2) = js.map fun j => .ref (T j) := by
  have z := congrArg (List.map Prod.snd) h
  simpa [List.map_map, Function.comp_def] using z
theorem XsOf.store {xs : List Ent} {js : List Nat} (inj : ∀ i j, key i = key j → i = j) (h : XsOf T key xs js) (j : Nat) (q : Addr) : XsOf T key (storedH xs (key j) q (.ref (T j))) (if j ∈ js then js else js ++ [j]) := by
  unfold storedH
  by_cases hm : j ∈ js
  · have ha : (atKey xs (key j)).isSome := by
      have z : key j ∈ xs.map (·.1) := by rw [h.keys]; exact List.mem_map_of_mem hm
      obtain ⟨x, hx, e⟩ := List.mem_map.mp z
      cases q : atKey xs (key j) with
      | some _ => rfl
      | none =>
        rw [atKey, Option.map_eq_none_iff, List.find?_eq_none] at q
        exact absurd (decide_eq_true e) (q x hx)
    rw [if_pos hm, if_pos ha]
    unfold XsOf
    rw [List.map_map, ← h]
    refine List.map_congr_left fun x hx => ?_
    obtain ⟨i, _, e1, e2⟩ := h.mem x hx
    show ((putAt (key j) (.ref (T j)) x).1, (putAt (key j) (.ref (T j)) x).2.2) = _
    unfold putAt
    by_cases e : x.1 = key j
    · rw [if_pos e]
      have : i = j := inj _ _ (e1.symm.trans e)
      rw [e2, this]
    · rw [if_neg e]
  · have ha : ¬ (atKey xs (key j)).isSome := fun ha => by
      obtain ⟨p, hp⟩ := Option.isSome_iff_exists.mp ha
      rw [atKey, Option.map_eq_some_iff] at hp
      obtain ⟨x, hx, _⟩ := hp
      obtain ⟨i, hi, e1, _⟩ := h.mem x (List.mem_of_find?_eq_some hx)
      have e0 := List.find?_some (p := fun x : Ent => decide (x.1 = key j)) hx
      have e : x.1 = key j := of_decide_eq_true e0
      exact hm (inj _ _ (e1.symm.trans e) ▸ hi)
    rw [if_neg hm, if_neg ha]
    unfold XsOf
    rw [List.map_append, List.map_append, h]
    rfl
theorem nodup_len : ∀ (K : Nat) (js : List Nat), js.Nodup → (∀ j ∈ js, j < K) → js.length ≤ K
  | 0, [], _, _ => Nat.le_refl _
  | 0, j :: _, _, h => absurd (h j (.head _)) (Nat.not_lt_zero _)
  | K + 1, js, hn, h => by
    have z := nodup_len K (js.erase K) (hn.erase K) (fun j hj => by
      have h1 := h j (List.mem_of_mem_erase hj)
      have h2 : j ≠ K := fun e => by rw [e] at hj; exact (List.Nodup.not_mem_erase hn) hj
      omega)
    have := List.length_erase (l := js) (a := K)
    by_cases e : K ∈ js
    · rw [if_pos e] at this
      omega
    · rw [if_neg e] at this
      omega
theorem XsOf.len {xs : List Ent} {js : List Nat} (h : XsOf T key xs js) : xs.length = js.length := by
  have z := congrArg List.length h
  simpa using z
theorem XsOf.nodup {xs : List Ent} {js : List Nat} (h : XsOf T key xs js) (hn : (xs.map (·.1)).Nodup) : js.Nodup := by
  rw [h.keys] at hn
  clear h
  induction js with
  | nil => exact List.nodup_nil
  | cons a r ih =>
    rw [List.map_cons, List.nodup_cons] at hn
    exact List.nodup_cons.mpr ⟨fun hm => hn.1 (List.mem_map_of_mem hm), ih hn.2⟩
/-- a level: nodes below K, with the K-1-th among them -/
def LevOk (K : Nat) (js : List Nat) : Prop := (∀ j ∈ js, j < K) ∧ (0 < K → K - 1 ∈ js)
/-- what known holds after the parts of the nodes js' of a level below K -/
def NextOk (K : Nat) (done js : List Nat) : Prop := (∀ j ∈ js, j < K - 1) ∧ (0 < K - 1 → K - 1 ∈ done → K - 2 ∈ js)
theorem NextOk.lev {K : Nat} {done js : List Nat} (h : NextOk K done js) (hd : LevOk K done) : LevOk (K - 1) js :=
  ⟨h.1, fun h0 => by have := h.2 h0 (hd.2 (by omega)); rwa [show K - 1 - 1 = K - 2 by omega]⟩
theorem NextOk.put {K j : Nat} {done js : List Nat} (h : NextOk K done js) (hj : j < K - 1) : NextOk K done (if j ∈ js then js else js ++ [j]) := by
  by_cases e : j ∈ js
  · rw [if_pos e]; exact h
  · rw [if_neg e]
    refine ⟨fun i hi => ?_, fun h0 hd => List.mem_append_left _ (h.2 h0 hd)⟩
    rcases List.mem_append.mp hi with hi | hi
    · exact h.1 i hi
    · rw [List.mem_singleton.mp hi]; exact hj
theorem mem_put (j : Nat) (js : List Nat) : j ∈ (if j ∈ js then js else js ++ [j]) := by
  by_cases e : j ∈ js
  · rw [if_pos e]; exact e
  · rw [if_neg e]; exact List.mem_append_right _ (.head _)
theorem mem_put_old {i j : Nat} {js : List Nat} (h : i ∈ js) : i ∈ (if j ∈ js then js else js ++ [j]) := by
  by_cases e : j ∈ js
  · rw [if_pos e]; exact h
  · rw [if_neg e]; exact List.mem_append_left _ h
theorem NextOk.step {K j : Nat} {done js : List Nat} (h : NextOk K done js) (hin : 0 < j → j - 1 ∈ js) : NextOk K (done ++ [j]) js :=
  ⟨h.1, fun h0 hd => by
    rcases List.mem_append.mp hd with hd | hd
    · exact h.2 h0 hd
    · have e := List.mem_singleton.mp hd
      have := hin (by omega)
      rwa [show j - 1 = K - 2 by omega] at this⟩
end

-- part LvRules
section
variable {prog : Program} {w : World} {A : Around} {E : Value → Shared → Prop} {s : Shared} {h₀ : Heap} {L a c : Addr} {m : Str → Option Value} {cn : Str} {cs : Scope} {ccd : Value} {cl : List (Str × Addr)} {x : Str} {v : Value} {news : List (Addr × Obj)} {o : Obj} {v₀ : Option Value}
/-- {}: its object, as the own dict rules want it -/
theorem newDictA {env : Env} {pos : Pos} {Q : Value → Shared → Prop} (F : Fr h₀ L s.heap m) (N : News h₀ L s.heap news) (hbig : h₀.NoLimit)
    (k : ∀ d h' ep, Fr h₀ L h' m → News h₀ L h' ((d, dictA #[] ep) :: news) → (∀ p ∈ news, p.1 < d) → (d == sysModules) = false → Q (.ref d) { s with heap := h' }) : wpAny (model prog w) A (eval (.Dict [] [] pos) env) Q E s :=
  newDict_K F N hbig fun d h' o F' N' l1 lo' hs' _ _ _ => by
    obtain ⟨es, ep, hc, hd, _, hp, _⟩ := hs'
    have e : es = #[] := by
      cases es with
      | mk l => cases hp; rfl
    subst e
    have e : o = dictA #[] ep := by
      obtain ⟨c, di, dt, sl⟩ := o
      obtain ⟨h1, h2, h3⟩ := hc
      dsimp only at h1 h2 h3 hd
      rw [h1, h2, h3, hd]
    exact k d h' ep F' (e ▸ N') l1 lo'
/-- a cell at the head of a ledger is set -/
theorem storeCell {Q : Unit → Shared → Prop} (F : Fr h₀ L s.heap m) (N : News h₀ L s.heap ((c, o) :: news)) (off : ∀ p ∈ news, p.1 ≠ c) (hc : cl.lookup x = some c) (hd : o.data = .cell v₀)
    (h : ∀ h' o', Fr h₀ L h' m → News h₀ L h' ((c, o') :: news) → o'.data = .cell (some v) → Q () { s with heap := h' })
    (hk : cs.kind = .function := by rfl) (hx : (envX cn cs L a ccd cl).kindOf x = some .cell := by rfl) : wpAny (model prog w) A (storeName (envX cn cs L a ccd cl) x v) Q E s := by
  have hm := N _ (.head _)
  refine wpAny_storeName_cell hk hx hc ⟨o, hm.1, hd⟩ fun h' hv hs => ?_
  obtain ⟨o', ho', hd'⟩ := hv
  refine h h' o' ⟨F.ns.sameBut hs (Ne.symm hm.2.1), fun b ob e => (hs.2 b (fun q => by rw [q, hm.2.2] at e; cases e)).trans (F.keep b ob e), F.above⟩ (fun p hp => ?_) hd'
  rcases List.mem_cons.mp hp with rfl | hp
  · exact ⟨ho', hm.2⟩
  · exact ⟨(hs.2 _ (off p hp)).trans (N p (.tail _ hp)).1, (N p (.tail _ hp)).2⟩
/-- x == [] -/
theorem eq_empty {l b : Addr} {items : Array Value} {Q : Value → Shared → Prop} (hl : s.heap.IsList l items) (hb : s.heap.IsList b #[]) (hu : A.units < cLine) (h : Q (.bool (items.size == 0)) s) :
    wpAny (model prog w) A (compareOp .Eq (.ref l) (.ref b)) Q E s := by
  refine cmp_ofEq ?_
  by_cases e : items.size = 0
  · rw [e] at h
    have z := PySem.SeqAt.RcAt.lists (A := A) (s := s) (e := fun _ => true) hl hb (by rw [e]; rfl) hu (fun j h1 => absurd h1 (by rw [e]; exact Nat.not_lt_zero _))
    refine z prog w E Q ?_
    simpa [e] using h
  · rw [show (items.size == 0) = false from beq_eq_false_iff_ne.mpr e] at h
    exact PySem.SeqAt.RcAt.lists_lengths hl hb (by simpa using e) hu prog w E Q h
end
section
variable {prog : Program} {w : World} {A : Around} {s : Shared} {h₀ : Heap} {L : Addr} {m : Str → Option Value} {env : Env}
/-- a comprehension whose turns leave the ledger as it is -/
theorem compRest_const {elt : Expr} {x : Str} {scope : Scope} {cl : List (Str × Addr)} {S : List (Addr × Obj) → Prop} {P : Nat → Value → Prop} {Fin : List Value → List (Addr × Obj) → Prop} {news : List (Addr × Obj)} {f : Nat → Value} {n : Nat} (hS : S news)
    (step : ∀ i v I oI C oC D ys m₂ h tk (E' : Value → Shared → Prop), i < n → P i v → LCg.NsObj oC m₂ → m₂ x = some v → Fr h₀ L h m → News h₀ L h ((I, oI) :: (C, oC) :: (D, LCg.lst ys) :: news) → LCg.Off3 I C D news → ((@Ne Nat I C) ∧ (@Ne Nat I D) ∧ (@Ne Nat C D)) →
      wpAny (model prog w) A (eval elt (compEnvC scope cl C env)) (fun y s₂ => y = f i ∧ ∃ tk', s₂ = { s with heap := h, toks := tk' }) E' { s with heap := h, toks := tk })
    (fin : Fin ((List.range n).map f) news) : LCg.CompRest prog w A h₀ L m env elt x scope cl s S P Fin n 0 [] news := by
  suffices all : ∀ k i ys, i + k = n → ys = (List.range i).map f → LCg.CompRest prog w A h₀ L m env elt x scope cl s S P Fin k i ys news from all n 0 [] (Nat.zero_add n) rfl
  intro k
  induction k with
  | zero =>
    rintro i ys hi rfl
    rw [Nat.add_zero] at hi
    subst hi
    exact fin
  | succ k ih =>
    rintro i ys hi rfl
    intro v I oI C oC D m₂ h tk E' hP hC hx F N off ne
    refine wpAny_mono (step i v I oI C oC D _ m₂ h tk E' (by omega) hP hC hx F N off ne) (fun y s₂ hy => ?_) fun _ _ e => e
    obtain ⟨rfl, tk', rfl⟩ := hy
    exact ⟨h, tk', news, rfl, F, N, off, hS, ih (i + 1) _ (by omega) (by rw [List.range_succ, List.map_append]; rfl)⟩
end
theorem eq_emptyB {prog : Program} {w : World} {A : Around} {E : Value → Shared → Prop} {s : Shared} {l b : Addr} {items : Array Value} {Q : Value → Shared → Prop} (r : Bool) (hl : s.heap.IsList l items) (hb : s.heap.IsList b #[]) (hr : (items.size == 0) = r) (hu : A.units < cLine) (h : Q (.bool r) s) :
    wpAny (model prog w) A (compareOp .Eq (.ref l) (.ref b)) Q E s := eq_empty hl hb hu (hr ▸ h)
theorem off1_all {D : Addr} : ∀ {l : List (Addr × Obj)}, LCg.Off1 D l → ∀ p ∈ l, p.1 ≠ D
  | [], _, _, hp => nomatch hp
  | q :: r, h, p, hp => by
    rcases List.mem_cons.mp hp with rfl | hp
    · exact h.1
    · exact off1_all h.2 p hp
def valAt (xs : List Ent) (i : Nat) : Value := match xs[i]? with | some x => x.2.2 | none => .none
theorem valAt_of {xs : List Ent} {i : Nat} {x : Ent} (h : xs[i]? = some x) : x.2.2 = valAt xs i := by rw [valAt, h]
theorem range_vals (xs : List Ent) : (List.range xs.length).map (valAt xs) = xs.map (·.2.2) := by
  refine List.ext_getElem (by simp) fun i h1 h2 => ?_
  have h : i < xs.length := by simpa using h1
  simp [valAt, List.getElem?_eq_getElem h]
theorem wpAny_cut {α : Type} {M : Model} {A : Around} {t : Sem α} {P Q : α → Shared → Prop} {E : Value → Shared → Prop} {s : Shared} (h : wpAny M A t P E s) (k : ∀ a s', P a s' → Q a s') : wpAny M A t Q E s :=
  wpAny_mono h k fun _ _ e => e
theorem neq_emptyB {prog : Program} {w : World} {A : Around} {E : Value → Shared → Prop} {s : Shared} {l b : Addr} {items : Array Value} {Q : Value → Shared → Prop} (r : Bool) (hl : s.heap.IsList l items) (hb : s.heap.IsList b #[]) (hr : (items.size != 0) = r) (hu : A.units < cLine) (h : Q (.bool r) s) :
    wpAny (model prog w) A (compareOp .NotEq (.ref l) (.ref b)) Q E s := by
  refine cmp_ofNotEq ?_
  by_cases e : items.size = 0
  · have z := PySem.SeqAt.RcNeAt.lists (A := A) (s := s) (e := fun _ => true) hl hb (by rw [e]; rfl) hu (fun j h1 => absurd h1 (by rw [e]; exact Nat.not_lt_zero _))
    refine z prog w E Q ?_
    simpa [e, ← hr] using h
  · rw [show r = true from by rw [← hr]; simpa using e] at h
    exact PySem.SeqAt.RcNeAt.lists_lengths hl hb (by simpa using e) hu prog w E Q h
theorem fr_over {h₀ h : Heap} {L : Addr} {x : Str} {v u : Option Value} {m : Str → Option Value} (F : Fr h₀ L h (fun y => if y = x then v else if y = x then u else m y)) : Fr h₀ L h (fun y => if y = x then v else m y) := by
  have : (fun y => if y = x then v else if y = x then u else m y) = fun y => if y = x then v else m y := by
    funext y
    by_cases h : y = x
    · rw [if_pos h, if_pos h]
    · rw [if_neg h, if_neg h, if_neg h]
  rwa [this] at F
theorem fr_known4 {h₀ h : Heap} {L : Addr} {x z1 z2 z3 z4 : Str} {v : Option Value} {u1 u2 u3 u4 : Value} {m₁ : Str → Option Value} (F : Fr h₀ L h (fun y => if y = x then v else m₁ y)) (e1 : m₁ z1 = some u1) (e2 : m₁ z2 = some u2) (e3 : m₁ z3 = some u3) (e4 : m₁ z4 = some u4) :
    Fr h₀ L h (fun y => if y = x then v else if y = z1 then some u1 else if y = z2 then some u2 else if y = z3 then some u3 else if y = z4 then some u4 else m₁ y) := by
  have : (fun y => if y = x then v else if y = z1 then some u1 else if y = z2 then some u2 else if y = z3 then some u3 else if y = z4 then some u4 else m₁ y) = fun y => if y = x then v else m₁ y := by
    funext y
    by_cases h0 : y = x
    · simp only [if_pos h0]
    simp only [if_neg h0]
    by_cases h1 : y = z1
    · rw [if_pos h1, h1, e1]
    rw [if_neg h1]
    by_cases h2 : y = z2
    · rw [if_pos h2, h2, e2]
    rw [if_neg h2]
    by_cases h3 : y = z3
    · rw [if_pos h3, h3, e3]
    rw [if_neg h3]
    by_cases h4 : y = z4
    · rw [if_pos h4, h4, e4]
    rw [if_neg h4]
  rwa [this]
theorem fr_all4 {h₀ h : Heap} {L : Addr} {z1 z2 z3 z4 : Str} {u1 u2 u3 u4 : Value} {m₁ : Str → Option Value} (F : Fr h₀ L h m₁) (e1 : m₁ z1 = some u1) (e2 : m₁ z2 = some u2) (e3 : m₁ z3 = some u3) (e4 : m₁ z4 = some u4) :
    Fr h₀ L h (fun y => if y = z1 then some u1 else if y = z2 then some u2 else if y = z3 then some u3 else if y = z4 then some u4 else m₁ y) := by
  have : (fun y => if y = z1 then some u1 else if y = z2 then some u2 else if y = z3 then some u3 else if y = z4 then some u4 else m₁ y) = m₁ := by
    funext y
    by_cases h1 : y = z1
    · rw [if_pos h1, h1, e1]
    rw [if_neg h1]
    by_cases h2 : y = z2
    · rw [if_pos h2, h2, e2]
    rw [if_neg h2]
    by_cases h3 : y = z3
    · rw [if_pos h3, h3, e3]
    rw [if_neg h3]
    by_cases h4 : y = z4
    · rw [if_pos h4, h4, e4]
    rw [if_neg h4]
  rwa [this]
theorem fr_known {h₀ h : Heap} {L : Addr} {x z : Str} {v : Option Value} {u : Value} {m₁ : Str → Option Value} (F : Fr h₀ L h (fun y => if y = x then v else m₁ y)) (e : m₁ z = some u) : Fr h₀ L h (fun y => if y = x then v else if y = z then some u else m₁ y) := by
  have : (fun y => if y = x then v else if y = z then some u else m₁ y) = fun y => if y = x then v else m₁ y := by
    funext y
    by_cases h1 : y = x
    · simp only [if_pos h1]
    · simp only [if_neg h1]
      by_cases h2 : y = z
      · rw [if_pos h2, h2, e]
      · rw [if_neg h2]
  rw [this]
  exact F
theorem fr_known2 {h₀ h : Heap} {L : Addr} {x z z2 : Str} {v : Option Value} {u u2 : Value} {m₁ : Str → Option Value} (F : Fr h₀ L h (fun y => if y = x then v else m₁ y)) (e : m₁ z = some u) (e2 : m₁ z2 = some u2) :
    Fr h₀ L h (fun y => if y = x then v else if y = z then some u else if y = z2 then some u2 else m₁ y) := by
  have : (fun y => if y = x then v else if y = z then some u else if y = z2 then some u2 else m₁ y) = fun y => if y = x then v else m₁ y := by
    funext y
    by_cases h1 : y = x
    · simp only [if_pos h1]
    · simp only [if_neg h1]
      by_cases h2 : y = z
      · rw [if_pos h2, h2, e]
      · rw [if_neg h2]
        by_cases h3 : y = z2
        · rw [if_pos h3, h3, e2]
        · rw [if_neg h3]
  rw [this]
  exact F
theorem fr_two {h₀ h : Heap} {L : Addr} {z z2 : Str} {u u2 : Value} {m₁ : Str → Option Value} (F : Fr h₀ L h m₁) (e : m₁ z = some u) (e2 : m₁ z2 = some u2) :
    Fr h₀ L h (fun y => if y = z then some u else if y = z2 then some u2 else m₁ y) := by
  have : (fun y => if y = z then some u else if y = z2 then some u2 else m₁ y) = m₁ := by
    funext y
    by_cases h2 : y = z
    · rw [if_pos h2, h2, e]
    · rw [if_neg h2]
      by_cases h3 : y = z2
      · rw [if_pos h3, h3, e2]
      · rw [if_neg h3]
  rw [this]
  exact F

-- part LvLevels
section

structure Chain (P : Addr → Obj → Prop) (n : Nat) (T : Nat → Addr) : Prop where
  foot : FootOn P (T 0)
  link : ∀ k, k < n → LinkOn P (T (k + 1)) (100 + (k : Int)) (T k) (T (k - 1))
theorem Chain.mono {P P' : Addr → Obj → Prop} {n : Nat} {T : Nat → Addr} (k : ∀ a o, P a o → P' a o) (c : Chain P n T) : Chain P' n T := ⟨c.foot.mono k, fun i hi => (c.link i hi).mono k⟩
def NodeOn (P : Addr → Obj → Prop) (x : Addr) (num : Int) (kind : Str) : Prop := ∃ dx n es, P x (instObj 239 dx) ∧ P dx (dictOf es n) ∧ (∃ tk, getL (Str.ofString "number") es = some (some (.int num tk))) ∧ ∃ tk, getL (Str.ofString "kind") es = some (some (.str kind tk))
theorem node_of {P : Addr → Obj → Prop} {x : Addr} {es : List DictEntry} {kind : Str} {num : Int} {lc : Addr} {v d c : Value} (i : InstOn P 239 x es) (f : Fields es kind num lc v d c) : NodeOn P x num kind := by
  obtain ⟨dx, n, i1, i2⟩ := i
  exact ⟨dx, n, es, i1, i2, f.number, f.kind⟩
theorem LinkOn.node {P : Addr → Obj → Prop} {x : Addr} {num : Int} {last before : Addr} (K : LinkOn P x num last before) : ∃ kind, NodeOn P x num kind := by
  cases K with
  | arr a b => exact ⟨_, node_of a b⟩
  | priv a b => exact ⟨_, node_of a b⟩
  | var a b => exact ⟨_, node_of a b⟩
  | both a b => exact ⟨_, node_of a b⟩
  | one a b => exact ⟨_, node_of a b⟩
theorem Chain.nodes {P : Addr → Obj → Prop} {n : Nat} {T : Nat → Addr} (c : Chain P n T) : ∃ (num : Nat → Int) (kd : Nat → Str), (∀ j, j ≤ n → NodeOn P (T j) (num j) (kd j)) ∧ ∀ i j, nodeKey (num i) (kd i) = nodeKey (num j) (kd j) → i = j := by
  have h0 : ∃ z : Int, z < 100 ∧ ∃ kind, NodeOn P (T 0) z kind := by
    cases c.foot with
    | whole a b => exact ⟨5, by decide, _, node_of a b⟩
    | access a b => exact ⟨60, by decide, _, node_of a b⟩
  obtain ⟨z, hz, k0, hk0⟩ := h0
  have all : ∀ j : Nat, ∃ kind, j ≤ n → NodeOn P (T j) (match j with | 0 => z | k + 1 => 100 + (k : Int)) kind := fun j => by
    cases j with
    | zero => exact ⟨k0, fun _ => hk0⟩
    | succ k =>
      by_cases hk : k < n
      · obtain ⟨kind, h⟩ := (c.link k hk).node
        exact ⟨kind, fun _ => h⟩
      · exact ⟨k0, fun h => absurd h hk⟩
  obtain ⟨kd, hkd⟩ := Classical.axiomOfChoice all
  refine ⟨fun j => (match j with | 0 => z | k + 1 => 100 + (k : Int)), kd, hkd, fun i j e => ?_⟩
  have e1 := List.cons.inj e
  have e2 := Sum.inl.inj e1.1
  cases i <;> cases j <;> dsimp only at e2 <;> omega
section
variable {w : World} {mean : ExcName → Option Value} {mg mb : Str → Option Value} {dp un : Nat} {gd : Option (List Code)} {cn : Str} {cs : Scope} {a : Addr} {ccd : Value} {cl : List (Str × Addr)} {outer : List Env} {A₀ : Around} {base h₀ : Heap} {L : Addr} {m : Str → Option Value} {news : List (Addr × Obj)} {s : Shared} {Q E : Value → Shared → Prop}
/-- part_types of the node j of a chain -/
theorem parts_node {n j : Nat} {T : Nat → Addr} (C : Chain (MadeIn news) n T) (hj : j ≤ n)
    (B : Below A₀ base outer h₀) (F : Fr h₀ L s.heap m) (X : (hd.heap_1 w.params).In h₀) (N : News h₀ L s.heap news) (Tp : Top hd.view_1 (looseW hd.view_1 [Str.ofString "is_sign"]) mean mg mb h₀)
    (hk : cs.kind = .function) (hd : dp ≤ 500) (hu : un ≤ 5000)
    (ret : ∀ l js c h' tk', Fr h₀ L h' m → News h₀ L h' ((l, listOf (js.map fun i => Value.ref (T i)).toArray c) :: news) → AllNe l news → LevOk j js → js.length ≤ 2 → Q (.ref l) { s with heap := h', toks := tk' }) :
    wpAny (model PySem.Challenge.rw_xw0005_01.row.prog w) (ktrTop dp un gd cn cs L a ccd cl outer) (call (.ref 91) [.ref (T j)]) Q E s := by
  cases j with
  | zero => exact parts_foot C.foot B F X N Tp hk hd hu fun l n' h' tk' F' N' a' => ret l [] n' h' tk' F' N' a' ⟨fun _ h => (nomatch h), fun h => absurd h (Nat.lt_irrefl _)⟩ (Nat.zero_le _)
  | succ k =>
    refine parts_link (C.link k hj) B F X N Tp hk hd hu fun items l n' h' tk' hi F' N' a' => ?_
    rcases hi with rfl | rfl
    · exact ret l [k] n' h' tk' F' N' a' ⟨fun i h => by rw [List.mem_singleton.mp h]; exact Nat.lt_succ_self _, fun _ => .head _⟩ (Nat.le_of_ble_eq_true rfl)
    · refine ret l [k, k - 1] n' h' tk' F' N' a' ⟨fun i h => ?_, fun _ => .head _⟩ (Nat.le_refl _)
      rcases List.mem_cons.mp h with rfl | h
      · exact Nat.lt_succ_self _
      · rw [List.mem_singleton.mp h]; omega
end
set_option hygiene false
local macro_rules | `(tactic| ktr_enter) => `(tactic| (refine' code_defC ?k1 ?k2 ?k3 ?k4 ?k5 ?kA ?kF ?kK ?k6 ?k7 ?k8 ?k9 ?kB ?kD ?_ ?c2 ?c3 ?c4; (case kA | kF => exact rfl); (case kK => assumption); (case k1 | k2 => k_asm); (case k3 | k4 | k5 => k_asm); (case k6 | k7 => k_is); (case k8 => k_room); (case k9 => exact BindsTo.of_eq rfl); (case kB => exact rfl); (case kD => decide +kernel); (case c2 | c3 | c4 => exact rfl); k_whole; intro gc Lc hc tkc cells FG FF NN YY BB XX TT l1; (have hY := CellsAre.one YY); (obtain ⟨oc, hE, d1⟩ := hY); subst hE; clear YY; (try simp only [List.cons_append, List.nil_append] at NN); (try dsimp only); (try k_fold)))
set_option hygiene true
local macro_rules | `(tactic| ktr_rel) => `(tactic| repeat' (first | (refine List.forall_mem_cons.mpr ⟨?_, ?_⟩) | exact List.Mem.head _ | assumption | (refine List.Mem.tail _ ?_) | (intro p hp; repeat (first | exact hp | refine List.Mem.tail _ ?_))))
local macro_rules | `(tactic| k_steps) => `(tactic| repeat' ((fail_if_success (with_reducible first | show wpAny _ _ (exec (Stmt.For _ _ _ _ _) _) _ _ _ | show wpAny _ _ (pyIter _) _ _ _ | show wpAny _ _ (compareOp _ (Value.ref _) (Value.ref _)) _ _ _ | show wpAny _ _ (setItem _ _ _) _ _ _ | show wpAny _ _ (getItem _ _) _ _ _ | show wpAny _ _ (call (Value.ref 79) _) _ _ _ | show wpAny _ _ (storeName _ (Str.ofString "known") _) _ _ _ | show wpAny _ _ (exec (Stmt.Assign _ (Expr.ListComp _ _ _ _) _) _) _ _ _)); first | (k_unfold; (try dsimp only)) | walk1 | (dsimp only; walk1) | (leave1; walk_say "STEP leave1"; try dsimp only) | fail "no step"))
set_option hygiene false
local macro_rules | `(tactic| walk_at "eval Dict nil nil") => `(tactic| (k_here; k_dflt (refine' newDictA ?ddF ?ddN ?ddT ?_; (case ddF | ddN => k_asm); (case ddT => exact TopRead.nolimit (by k_asm)); k_whole); intro kn h' ep F' N' lk lo; (try k_sweep); (try dsimp only)))
set_option hygiene true
set_option hygiene false
local macro_rules | `(tactic| walk_at "call ref") => `(tactic| (k_here; (with_reducible show wpAny _ _ (call (Value.ref 91) _) _ _ _); k_dflt (refine' parts_node ?ppC ?ppj ?pp1 ?pp2 ?pp3 ?pp4 ?pp5 ?ppK ?ppd ?ppu ?_; (case pp1 | pp2 => k_asm); (case pp3 | pp4 | pp5 => k_asm); (case ppK => exact rfl); (case ppd | ppu => exact Nat.le_of_ble_eq_true rfl); (case ppC => (refine' Chain.mono ?ppM ?ppC2; (case ppC2 => assumption); (case ppM => (intro _ _ hm; repeat (first | exact hm | apply List.Mem.tail))))); (case ppj => assumption); k_whole; intro pl jp pc h' tk' F' N' aP lP zP; (try k_sweep); (try dsimp only))))
set_option hygiene true

def JA (T : Nat → Addr) (n : Nat) (c0 sc : Addr) (led : List (Addr × Obj)) (i : Nat) (m' : Str → Option Value) (nx' : List (Addr × Obj)) : Prop :=
  ∃ lv js c oc v0, m' (Str.ofString "level") = some (.ref lv) ∧ m' (Str.ofString "scope") = some (.ref sc) ∧ nx' = (c0, oc) :: (lv, listOf (js.map fun i => Value.ref (T i)).toArray c) :: led ∧ oc.data = .cell v0 ∧ lv ≠ c0 ∧ LevOk (n - i) js ∧ js.length ≤ 43 ∧ (0 < i → 0 < n - i)
def JB (prog : Program) (w : World) (T : Nat → Addr) (key : Nat → List (Int ⊕ Str)) (c0 sc kn K : Nat) (js : List Nat) (base : List (Addr × Obj)) (i : Nat) (m' : Str → Option Value) (nx' : List (Addr × Obj)) : Prop :=
  ∃ es ep xs js' oc rest, m' (Str.ofString "scope") = some (.ref sc) ∧ nx' = (kn, dictA es ep) :: (c0, oc) :: rest ∧ (∀ p ∈ base, p ∈ rest) ∧ oc.data = .cell (some (.ref kn)) ∧ (∀ p ∈ (c0, oc) :: rest, p.1 ≠ kn) ∧
    KnownIs prog w nx' kn es ep xs ∧ XsOf T key xs js' ∧ NextOk K (js.take i) js'
def JC (prog : Program) (w : World) (T : Nat → Addr) (key : Nat → List (Int ⊕ Str)) (c0 sc kn K : Nat) (I2 : Addr) (oI2 : Obj) (js : List Nat) (jp : List Nat) (base : List (Addr × Obj)) (i : Nat) (m' : Str → Option Value) (nx' : List (Addr × Obj)) : Prop :=
  ∃ es ep xs js' oc rest, m' (Str.ofString "scope") = some (.ref sc) ∧ nx' = (kn, dictA es ep) :: (c0, oc) :: (I2, oI2) :: rest ∧ (∀ p ∈ base, p ∈ rest) ∧ oc.data = .cell (some (.ref kn)) ∧ (∀ p ∈ (c0, oc) :: (I2, oI2) :: rest, p.1 ≠ kn) ∧ (∀ p ∈ (c0, oc) :: rest, p.1 ≠ I2) ∧
    KnownIs prog w ((kn, dictA es ep) :: (c0, oc) :: rest) kn es ep xs ∧ XsOf T key xs js' ∧ NextOk K js js' ∧ ∀ c ∈ jp.take i, c ∈ js'
theorem map_get {T : Nat → Addr} {js : List Nat} {i : Nat} {v : Value} (h : (js.map fun i => Value.ref (T i)).toArray[i]? = some v) : ∃ j, js[i]? = some j ∧ v = .ref (T j) := by
  have z : (js.map fun i => Value.ref (T i))[i]? = some v := by simpa using h
  rw [List.getElem?_map] at z
  cases q : js[i]? with
  | none => rw [q] at z; cases z
  | some j => rw [q] at z; exact ⟨j, rfl, (Option.some.inj z).symm⟩
theorem mem_in3 {a b x p : Addr × Obj} {r : List (Addr × Obj)} (hp : p ∈ a :: b :: r) : p ∈ a :: b :: x :: r := by
  rcases List.mem_cons.mp hp with rfl | hp
  · exact .head _
  rcases List.mem_cons.mp hp with rfl | hp
  · exact .tail _ (.head _)
  exact .tail _ (.tail _ (.tail _ hp))
theorem mem_in2 {a x p : Addr × Obj} {r : List (Addr × Obj)} (hp : p ∈ a :: r) : p ∈ a :: x :: r := by
  rcases List.mem_cons.mp hp with rfl | hp
  · exact .head _
  exact .tail _ (.tail _ hp)
theorem news_swap {h₀ h : Heap} {L : Addr} {a b : Addr × Obj} {r : List (Addr × Obj)} (N : News h₀ L h (a :: b :: r)) : News h₀ L h (b :: a :: r) := fun p hp => N p (by
  rcases List.mem_cons.mp hp with rfl | hp
  · exact .tail _ (.head _)
  rcases List.mem_cons.mp hp with rfl | hp
  · exact .head _
  · exact .tail _ (.tail _ hp))
def CheckLevels (w : World) (mean : ExcName → Option Value) (mg mb : Str → Option Value) (D U : Nat) : Prop :=
  ∀ (gd : Option (List Code)) (cn : Str) (cs : Scope) (a : Addr) (ccd : Value) (cl : List (Str × Addr)) (outer : List Env) (A₀ : Around) (base h₀ : Heap) (L : Addr) (m : Str → Option Value) (s : Shared)
    (Q E : Value → Shared → Prop),
    Below A₀ base outer h₀ → Fr h₀ L s.heap m → (hd.heap_1 w.params).In h₀ →  Top hd.view_1 (looseW hd.view_1 [Str.ofString "is_sign"]) mean mg mb h₀ → cs.kind = .function →
    ∀ (sc dx : Addr) (n0 : Nat) (es : List DictEntry) (tk0 : Tok) (nx : List (Addr × Obj)) (n : Nat) (T : Nat → Addr), News h₀ L s.heap ((sc, instObj 113 dx) :: (dx, dictOf es n0) :: nx) → getL (Str.ofString "line") es = some (some (.int 1 tk0)) →
    Chain (MadeIn nx) n T → n ≤ 43 →
    (n ≤ 40 → ∀ h' tk', Fr h₀ L h' m → News h₀ L h' ((sc, instObj 113 dx) :: (dx, dictOf es n0) :: nx) → Q .none { s with heap := h', toks := tk' }) →
    (40 < n → Throws base h₀ outer L m cn cs a ccd 70 s E) →
    wpAny (model PySem.Challenge.rw_xw0005_01.row.prog w) (ktrTop D U gd cn cs L a ccd cl outer) (call (.ref 96) [.ref sc, .ref (T n)]) Q E s
set_option maxHeartbeats 40000000 in
theorem check_levels_K (w : World) (mean : ExcName → Option Value) (mg mb : Str → Option Value) : CheckLevels w mean mg mb 490 4900 := by
  have Z2 := fault_check w
  unfold CheckLevels
  k_fill
  w_top off
  intro gd cn cs a ccd cl outer A₀ base h₀ L m s Q E B F X Tp hk sc dx n0 es tk0 nx n T N hline C hn hret hthr
  obtain ⟨num, kd, hnode, inj⟩ := C.nodes
  have hnn : n ≤ n := Nat.le_refl n
  refine wpAny_call ?_
  k_dflt ktr_enter
  k_steps
  rename Fr _ _ _ _ => FA
  rename News _ _ _ _ => NA
  refine' For_invVF FA ?k1 ?k2 ?k3 ?k4 ?k5
  (case k1 => exact rfl)
  (case k2 => exact rfl)
  (case k4 => intro _; rfl)
  (case k5 => passes_own)
  k_steps
  rename Fr _ _ _ _ => FA
  rename News _ _ _ _ => NA
  rename IsRange _ _ _ _ _ _ _ _ => RA
  have LA := lP
  have aA := aP
  have zA := zP
  clear lP aP zP
  refine loop_range (n := 40) (JA T n (Lc + 1) sc ((sc, instObj 113 dx) :: (dx, dictOf es n0) :: nx)) rfl RA rfl rfl FA (news_swap NA) ?hj ?turn ?done
  (case hj => (refine' ⟨_, _, _, oc, _, ?ja, ?jb, ?jc, d1, ?jd, LA, ?je, ?jf⟩; (case ja => exact rfl); (case jb => exact rfl); (case jc => exact rfl); (case jd => exact Ne.symm aA.1); (case je => exact Nat.le_trans zA (Nat.le_of_ble_eq_true rfl)); (case jf => exact fun h => absurd h (Nat.lt_irrefl 0))))
  (case done =>
    rintro m₁ nx₁ h₁ tk₁ ⟨lv, js, c, oc, v0, e1, e2, rfl, e4, e5, e6, e7, e8⟩ F₁ N₁
    have F₂ : Fr gc Lc h₁ _ := fr_two F₁ e1 e2
    have N₂ : News gc Lc h₁ _ := N₁
    clear F₁ N₁
    k_steps
    refine wpAny_room (d := 530) (u := 5300) ?rd ?ru (refuse_K w mean mg mb _ _ _ _ _ _ _ _ base gc Lc _ _ _ _ BB F₂ XX TT rfl sc dx n0 es tk0 _ _ (fun p hp => N₂ p ?rp) hline ?rt)
    (case rd => exact Nat.le_of_ble_eq_true rfl)
    (case ru => exact Nat.le_of_ble_eq_true rfl)
    (case rp => (rcases List.mem_cons.mp hp with rfl | hp; exact .tail _ (.tail _ (.head _)); rw [List.mem_singleton.mp hp]; exact .tail _ (.tail _ (.tail _ (.head _)))))
    intro g₂ e t vs h2 tk2 FR RR UR
    k_steps
    rename RaisedS _ _ _ _ _ _ _ _ _ => R9
    rename Heap.UpToSlots gc _ => U9
    exact hthr (by have := e8 (Nat.le_of_ble_eq_true rfl); omega) _ _ _ _ _ _ FG R9 U9)
  rintro I i ti m₁ nx₁ h₁ tk₁ oI hi ⟨lv, js, c, oc, v0, e1, e2, rfl, e4, e5, e6, e7, e8⟩ off F₁ N₁
  clear FA NA RA
  have F₂ : Fr gc Lc h₁ _ := fr_known2 F₁ e1 e2
  have N₂ : News gc Lc h₁ _ := N₁
  clear F₁ N₁
  k_steps
  have offc : ∀ p ∈ (kn, dictA #[] ep) :: (I, oI) :: (lv, listOf (js.map fun i => Value.ref (T i)).toArray c) :: (sc, instObj 113 dx) :: (dx, dictOf es n0) :: nx, p.1 ≠ Lc + 1 := fun p hp => by
    rcases List.mem_cons.mp hp with rfl | hp
    · exact Ne.symm (Nat.ne_of_lt (lk (Lc + 1, oc) (.tail _ (.head _))))
    rcases List.mem_cons.mp hp with rfl | hp
    · exact Ne.symm (off (Lc + 1, oc) (.head _))
    rcases List.mem_cons.mp hp with rfl | hp
    · exact e5
    exact Nat.ne_of_lt (Nat.lt_succ_of_lt (l1 p hp))
  refine storeCell F' (fun p hp => N' p ?pn) offc rfl e4 ?_
  (case pn => (rcases List.mem_cons.mp hp with rfl | hp; exact .tail _ (.tail _ (.head _)); rcases List.mem_cons.mp hp with rfl | hp; exact .head _; rcases List.mem_cons.mp hp with rfl | hp; exact .tail _ (.head _); exact .tail _ (.tail _ (.tail _ hp))))
  intro h3 o3 F3 N3 d3
  clear F' N'
  k_steps
  rename Fr _ _ _ _ => FB
  refine' For_invVF FB ?bk1 ?bk2 ?bk3 ?bk4 ?bk5
  (case bk1 => exact rfl)
  (case bk2 => exact rfl)
  (case bk4 => intro _; rfl)
  (case bk5 => passes_own)
  k_steps
  rename Fr _ _ _ _ => FB
  rename News _ _ _ _ => NB
  have hlo : ∀ p ∈ (Lc + 1, o3) :: (I, oI) :: (lv, listOf (js.map fun i => Value.ref (T i)).toArray c) :: (sc, instObj 113 dx) :: (dx, dictOf es n0) :: nx, p.1 ≠ kn := fun p hp => by
    rcases List.mem_cons.mp hp with rfl | hp
    · exact Nat.ne_of_lt (lk (Lc + 1, oc) (.tail _ (.head _)))
    rcases List.mem_cons.mp hp with rfl | hp
    · exact Nat.ne_of_lt (lk (I, oI) (.head _))
    exact Nat.ne_of_lt (lk p (.tail _ (.tail _ hp)))
  refine loop_list (JB PySem.Challenge.rw_xw0005_01.row.prog w T (fun j => nodeKey (num j) (kd j)) (Lc + 1) sc kn (n - i) js ((I, oI) :: (lv, listOf (js.map fun i => Value.ref (T i)).toArray c) :: (sc, instObj 113 dx) :: (dx, dictOf es n0) :: nx)) rfl FB (news_swap NB) (.tail _ (.tail _ (.tail _ (.head _)))) ?jb0 ?turnB ?doneB
  (case jb0 => (refine' ⟨#[], ep, [], [], o3, _, ?jba, rfl, fun p hp => hp, d3, hlo, ⟨.head _, rfl, fun _ h => (nomatch h), List.nodup_nil⟩, XsOf.nil, ⟨fun _ h => (nomatch h), fun _ h => ?jbb⟩⟩; (case jba => exact rfl); (case jbb => exact nomatch h)))
  (case doneB =>
    rintro m₃ nx₃ h₃ tk₃ ⟨es2, ep2, xs2, js2, oc2, rest2, g1, rfl, g3, g4, g5, g6, g7, g8⟩ F7 N7
    have F8 : Fr gc Lc h₃ _ := F7
    have N8 : News gc Lc h₃ _ := N7
    clear F7 N7
    k_steps
    rename Fr _ _ _ _ => F8
    rename News _ _ _ _ => N8
    refine assign_keys F8 (by rfl) (by with_unfolding_all rfl) (by with_unfolding_all rfl) (by decide) (by rfl) (by decide) (by rfl) (by rfl) (by rfl) ?_
    walk1
    refine ⟨kn, es2, ep2, _, rfl, rfl, F8, N8, .head _, lo, ?esz, fun g => ?crest⟩
    (case esz =>
      have z := congrArg List.length g6.ent
      have z2 : xs2.length ≤ 43 := by
        rw [g7.len]
        exact nodup_len 43 js2 (g7.nodup g6.nodup) fun c hc => by have := g8.1 c hc; omega
      simp only [List.length_map, Array.length_toList] at z
      exact Nat.le_trans (by omega) (show 43 ≤ sizeLine from Nat.le_of_ble_eq_true rfl))
    refine compRest_const (f := valAt xs2) (.head _) ?cstep ?cfin
    (case cstep =>
      rintro ci cv CI oCI CC oCC CD cys m₄ h₄ tk₄ E₄ hci ⟨ce, hce, rfl⟩ hNs hkey F9 N9 off9 ne9
      k_steps
      have N10 : News gc Lc h₄ ((kn, dictA es2 ep2) :: (Lc + 1, oc2) :: rest2) := fun p hp => N9 p (.tail _ (.tail _ (.tail _ hp)))
      refine subscriptTail_builtin (T := "dict") ⟨_, (N10 _ (.head _)).1, rfl⟩ PySem.F.slot_dict_getitem.lookup ?_ (by with_unfolding_all rfl) (by intro _; with_unfolding_all rfl)
      refine KnownIs.get g6 N10 ?gu hce fun x tk hx => ⟨valAt_of hx, tk, rfl⟩
      (case gu => exact Nat.le_of_ble_eq_true rfl))
    have hes : es2.size = xs2.length := by
      have z := congrArg List.length g6.ent
      simpa using z
    rw [hes, range_vals, g7.vals]
    have hlast := g8.lev (by rw [List.take_of_length_le (by simp)]; exact e6)
    intro D5 h5 tk5 F9 N9 off9
    have N10 : News gc Lc h5 ((D5, listOf (js2.map fun j => Value.ref (T j)).toArray (js2.map fun j => Value.ref (T j)).length) :: (kn, dictA es2 ep2) :: (Lc + 1, oc2) :: rest2) := N9
    clear N9
    dsimp only
    k_steps
    rename Fr _ _ _ _ => F11
    rename News _ _ _ _ => N11
    rename Addr => lE
    have hlD := lst_of (N11 (D5, listOf (js2.map fun j => Value.ref (T j)).toArray (js2.map fun j => Value.ref (T j)).length) (.tail _ (.head _))).1
    have hlE := lst_of (N11 (lE, _) (.head _)).1
    have off5 := off1_all off9
    by_cases hj2 : js2 = []
    · refine eq_emptyB true hlD hlE (by simp [hj2]) ?eu ?_
      (case eu => exact Nat.le_of_ble_eq_true rfl)
      k_steps
      dsimp only [LedPost]
      k_steps
      rename Fr _ _ _ _ => FZ
      rename News _ _ _ _ => NZ
      have hemp : n ≤ 40 := by
        rw [hj2] at hlast
        by_cases h0 : 0 < n - i - 1
        · exact nomatch hlast.2 h0
        · omega
      exact hret hemp _ _ FZ (fun p hp => NZ p (.tail _ (.tail _ (.tail _ (.tail _ (g3 p (.tail _ (.tail _ hp))))))))
    · refine eq_emptyB false hlD hlE (by simp [hj2]) ?eu ?_
      (case eu => exact Nat.le_of_ble_eq_true rfl)
      k_steps
      have hin : 0 < n - i - 1 := by
        obtain ⟨q, hq⟩ := List.exists_mem_of_ne_nil _ hj2
        have := hlast.1 q hq
        omega
      have hlen2 : js2.length ≤ 43 := nodup_len 43 js2 (g7.nodup g6.nodup) fun c hc => by have := hlast.1 c hc; omega
      refine ⟨_, _, _, _, (Lc + 1, oc2) :: (D5, listOf (js2.map fun j => Value.ref (T j)).toArray (js2.map fun j => Value.ref (T j)).length) :: (sc, instObj 113 dx) :: (dx, dictOf es n0) :: nx, rfl, F11, N11, ?n1, ?n2, ?n3, D5, js2, _, oc2, _, ?n4, ?n5, rfl, g4, ?n6, ?n7, hlen2, fun _ => by omega⟩
      (case n1 => exact List.forall_mem_cons.mpr ⟨.tail _ (.tail _ (.tail _ (.head _))), List.forall_mem_cons.mpr ⟨.tail _ (.head _), fun p hp => .tail _ (.tail _ (.tail _ (.tail _ (g3 p (.tail _ (.tail _ hp))))))⟩⟩)
      (case n2 =>
        intro p hp
        rw [List.mem_singleton.mp hp]
        exact .tail _ (.tail _ (.tail _ (.tail _ (g3 _ (.head _))))))
      (case n3 => exact List.forall_mem_cons.mpr ⟨off (Lc + 1, oc) (.head _), List.forall_mem_cons.mpr ⟨Ne.symm (off5 (I, oI) (.tail _ (.tail _ (g3 _ (.head _))))), fun p hp => off p (.tail _ (.tail _ hp))⟩⟩)
      (case n4 => exact rfl)
      (case n5 => exact (if_neg (by decide)).trans g1)
      (case n6 => exact Ne.symm (off5 (Lc + 1, oc2) (.tail _ (.head _))))
      (case n7 => exact (show n - (i + 1) = n - i - 1 by omega) ▸ hlast))
  rintro I2 i2 v2 m₂ nx₂ h₂ tk₂ oI2 hi2 ⟨es1, ep1, xs, js1, oc1, rest, f1, rfl, f3, f4, f5, f6, f7, f8⟩ off2 ne2 F4 N4
  obtain ⟨j, hj, rfl⟩ := map_get hi2
  have hjn : j ≤ n := by have := e6.1 j (List.mem_of_getElem? hj); omega
  have F5 : Fr gc Lc h₂ _ := fr_known F4 f1
  have N5 : News gc Lc h₂ _ := N4
  have C5 : Chain (MadeIn rest) n T := C.mono fun a o h => f3 _ (.tail _ (.tail _ (.tail _ (.tail _ h))))
  clear F4 N4 FB NB
  k_steps
  rename Fr _ _ _ _ => FC
  refine' For_invVF FC ?ck1 ?ck2 ?ck3 ?ck4 ?ck5
  (case ck1 => exact rfl)
  (case ck2 => exact rfl)
  (case ck4 => intro _; rfl)
  (case ck5 => passes_own)
  k_steps
  rename Fr _ _ _ _ => FC
  rename News _ _ _ _ => NC
  have hlv : (lv, listOf (js.map fun i => Value.ref (T i)).toArray c) ∈ rest := f3 _ (.tail _ (.head _))
  have offk : ∀ p ∈ (Lc + 1, oc1) :: (I2, oI2) :: (pl, listOf (jp.map fun i => Value.ref (T i)).toArray pc) :: rest, p.1 ≠ kn := fun p hp => by
    rcases List.mem_cons.mp hp with rfl | hp
    · exact f5 _ (.head _)
    rcases List.mem_cons.mp hp with rfl | hp
    · exact Ne.symm (off2 _ (.head _))
    rcases List.mem_cons.mp hp with rfl | hp
    · exact Ne.symm aP.2.2.1
    exact f5 _ (.tail _ hp)
  have offI : ∀ p ∈ (Lc + 1, oc1) :: (pl, listOf (jp.map fun i => Value.ref (T i)).toArray pc) :: rest, p.1 ≠ I2 := fun p hp => by
    rcases List.mem_cons.mp hp with rfl | hp
    · exact off2 _ (.tail _ (.head _))
    rcases List.mem_cons.mp hp with rfl | hp
    · exact Ne.symm aP.1
    exact off2 _ (.tail _ (.tail _ hp))
  have NC2 : News gc Lc _ ((kn, dictA es1 ep1) :: (Lc + 1, oc1) :: (I2, oI2) :: (pl, listOf (jp.map fun i => Value.ref (T i)).toArray pc) :: rest) := fun p hp => NC p (by
    rcases List.mem_cons.mp hp with rfl | hp
    · exact .tail _ (.tail _ (.tail _ (.head _)))
    rcases List.mem_cons.mp hp with rfl | hp
    · exact .tail _ (.tail _ (.tail _ (.tail _ (.head _))))
    rcases List.mem_cons.mp hp with rfl | hp
    · exact .tail _ (.head _)
    rcases List.mem_cons.mp hp with rfl | hp
    · exact .head _
    exact .tail _ (.tail _ (.tail _ (.tail _ (.tail _ hp)))))
  refine loop_list (JC PySem.Challenge.rw_xw0005_01.row.prog w T (fun j => nodeKey (num j) (kd j)) (Lc + 1) sc kn (n - i) I2 oI2 (js.take i2) jp ((pl, listOf (jp.map fun i => Value.ref (T i)).toArray pc) :: rest)) rfl FC NC2 (.tail _ (.tail _ (.tail _ (.head _)))) ?jc0 ?turnC ?doneC
  (case jc0 => (refine' ⟨es1, ep1, xs, js1, oc1, _, ?jca, rfl, fun p hp => hp, f4, offk, offI, ?jcb, f7, f8, ?jcc⟩; (case jca => exact rfl); (case jcc => exact fun _ h => (nomatch h)); (case jcb => exact f6.mono (fun p hp => mem_in3 hp))))
  (case doneC =>
    rintro m₃ nx₃ h₃ tk₃ ⟨es2, ep2, xs2, js2, oc2, rest2, g1, rfl, g3, g4, g5, g6, g7, g8, g9, g10⟩ F7 N7
    have F8 : Fr gc Lc h₃ _ := F7
    have N8 : News gc Lc h₃ _ := N7
    clear F7 N7
    k_steps
    have hjj : js[i2]? = some j := hj
    have hall : ∀ c ∈ jp, c ∈ js2 := fun c hc => g10 c (by rwa [List.take_of_length_le (by simp)])
    have htk : js.take (i2 + 1) = js.take i2 ++ [j] := by
      obtain ⟨hlt, e⟩ := List.getElem?_eq_some_iff.mp hjj
      rw [List.take_add_one, hjj]
      rfl
    refine ⟨h₃, tk₃, m₃, _, _, rfl, F8, N8, fun p hp => ?_, fun p hp => ?_, fun p hp => ?_, es2, ep2, xs2, js2, oc2, rest2, g1, rfl, fun p hp => g3 _ (.tail _ (f3 _ hp)), g4, fun p hp => g5 _ (mem_in2 hp), g7, g8, htk ▸ g9.step fun h0 => hall _ (lP.2 h0)⟩
    · exact mem_in3 hp
    · rcases List.mem_cons.mp hp with rfl | hp
      · exact .tail _ (.tail _ (.head _))
      · rw [List.mem_singleton.mp hp]
        exact .tail _ (.tail _ (.tail _ (g3 _ (.tail _ hlv))))
    · rcases List.mem_cons.mp hp with rfl | hp
      · exact off2 (kn, dictA es1 ep1) (.head _)
      · exact g6 p hp)
  rintro I3 i3 v3 m₃ nx₃ h₃ tk₃ oI3 hi3 ⟨es2, ep2, xs2, js2, oc2, rest2, g1, rfl, g3, g4, g5, g6, g7, g8, g9, g10⟩ off3 ne3 F7 N7
  obtain ⟨k, hk3, rfl⟩ := map_get hi3
  have hkj : k < j := lP.1 k (List.mem_of_getElem? hk3)
  obtain ⟨dxc, nc, esc, q1, q2, ⟨tkn, q3⟩, ⟨tkk, q4⟩⟩ := hnode k (by omega)
  have up : ∀ p ∈ nx, p ∈ rest2 := fun p hp => g3 _ (.tail _ (f3 _ (.tail _ (.tail _ (.tail _ (.tail _ hp))))))
  have N8 : News gc Lc h₃ ((T k, instObj 239 dxc) :: (dxc, dictOf esc nc) :: (I3, oI3) :: (pl, listOf (jp.map fun i => Value.ref (T i)).toArray pc) :: (kn, dictA es2 ep2) :: (Lc + 1, oc2) :: (I2, oI2) :: rest2) := fun p hp => N7 p (by
    rcases List.mem_cons.mp hp with rfl | hp
    · exact .tail _ (.tail _ (.tail _ (.tail _ (.tail _ (up _ q1)))))
    rcases List.mem_cons.mp hp with rfl | hp
    · exact .tail _ (.tail _ (.tail _ (.tail _ (.tail _ (up _ q2)))))
    exact hp)
  have F8 : Fr gc Lc h₃ _ := fr_known F7 g1
  clear F7 N7 FC NC NC2
  k_steps
  rename Fr _ _ _ _ => F9
  rename News _ _ _ _ => N9
  rename (_ ∧ _) => l9
  rename Addr => D9
  have off3' : I3 ≠ kn := Ne.symm (off3 _ (.head _))
  have hlen : xs2.length ≤ 43 := by
    rw [g8.len]
    exact nodup_len 43 js2 (g8.nodup g7.nodup) fun c hc => by have := g9.1 c hc; omega
  have M1 : ∀ p ∈ (kn, dictA es2 ep2) :: (I3, oI3) :: (Lc + 1, oc2) :: (I2, oI2) :: (D9, tupObj [.int (num k) tkn, .str (kd k) tkk]) :: rest2, p ∈ (D9, tupObj [.int (num k) tkn, .str (kd k) tkk]) :: (T k, instObj 239 dxc) :: (dxc, dictOf esc nc) :: (I3, oI3) :: (pl, listOf (jp.map fun i => Value.ref (T i)).toArray pc) :: (kn, dictA es2 ep2) :: (Lc + 1, oc2) :: (I2, oI2) :: rest2 := by ktr_rel
  refine KnownIs.set (n0 := (Lc + 1, oc2) :: (D9, tupObj [.int (num k) tkn, .str (kd k) tkk]) :: rest2) (news := (I3, oI3) :: (Lc + 1, oc2) :: (I2, oI2) :: (D9, tupObj [.int (num k) tkn, .str (kd k) tkk]) :: rest2) (g7.mono fun p hp => mem_in3 hp) (fun p hp => .tail _ (mem_in2 hp)) F9 (fun p hp => N9 p (M1 p hp)) ?so (.tail _ (.head _)) ?su (Nat.le_trans hlen (Nat.le_of_ble_eq_true rfl)) ?sq
  (case su => exact Nat.le_of_ble_eq_true rfl)
  (case so => (refine List.forall_mem_cons.mpr ⟨off3' , ?_⟩; refine List.forall_mem_cons.mpr ⟨g5 _ (.head _), ?_⟩; refine List.forall_mem_cons.mpr ⟨g5 _ (.tail _ (.head _)), ?_⟩; refine List.forall_mem_cons.mpr ⟨?sk, ?_⟩; (case sk => (exact Ne.symm (Nat.ne_of_lt l9.2.2.2.2.1))); intro p hp; exact g5 p (.tail _ (.tail _ hp))))
  (case sq =>
    intro h4 tk4 es4 ep4 F10 N10 K10
    k_steps
    have htk : jp.take (i3 + 1) = jp.take i3 ++ [k] := by
      rw [List.take_add_one, hk3]
      rfl
    have hkn : D9 ≠ kn := Ne.symm (Nat.ne_of_lt l9.2.2.2.2.1)
    have hI2 : D9 ≠ I2 := Ne.symm (Nat.ne_of_lt l9.2.2.2.2.2.2.1)
    have hI3 : D9 ≠ I3 := Ne.symm (Nat.ne_of_lt l9.2.2.1)
    have hpl : (pl, listOf (jp.map fun i => Value.ref (T i)).toArray pc) ∈ rest2 := g3 _ (.head _)
    refine ⟨h4, tk4, _, _, (kn, dictA es4 ep4) :: (Lc + 1, oc2) :: (I2, oI2) :: (D9, tupObj [.int (num k) tkn, .str (kd k) tkk]) :: rest2, rfl, F10, N10, ?_, ?_, ?_, es4, ep4, _, _, oc2, (D9, tupObj [.int (num k) tkn, .str (kd k) tkk]) :: rest2, ?_, rfl, ?_, g4, ?_, ?_, K10, XsOf.store (key := fun j => nodeKey (num j) (kd j)) inj g8 k D9, g9.put ?_, ?_⟩
    · ktr_rel
    · refine List.forall_mem_cons.mpr ⟨.tail _ (.head _), ?_⟩
      intro p hp
      rw [List.mem_singleton.mp hp]
      exact .tail _ (.tail _ (.tail _ (.tail _ (.tail _ hpl))))
    · refine List.forall_mem_cons.mpr ⟨fun e => off3 (kn, dictA es2 ep2) (.head _) e, List.forall_mem_cons.mpr ⟨off3 _ (.tail _ (.head _)), List.forall_mem_cons.mpr ⟨off3 _ (.tail _ (.tail _ (.head _))), List.forall_mem_cons.mpr ⟨hI3, fun p hp => off3 p (.tail _ (.tail _ (.tail _ hp)))⟩⟩⟩⟩
    · exact rfl
    · exact fun p hp => .tail _ (g3 p hp)
    · exact List.forall_mem_cons.mpr ⟨g5 _ (.head _), List.forall_mem_cons.mpr ⟨g5 _ (.tail _ (.head _)), List.forall_mem_cons.mpr ⟨hkn, fun p hp => g5 p (.tail _ (.tail _ hp))⟩⟩⟩
    · exact List.forall_mem_cons.mpr ⟨g6 _ (.head _), List.forall_mem_cons.mpr ⟨hI2, fun p hp => g6 p (.tail _ hp)⟩⟩
    · have := e6.1 j (List.mem_of_getElem? hj)
      omega
    · intro c hc
      rw [htk] at hc
      rcases List.mem_append.mp hc with hc | hc
      · exact mem_put_old (g10 c hc)
      · rw [List.mem_singleton.mp hc]
        exact mem_put k js2)

end
-- part LvRight
set_option hygiene false
local macro_rules | `(tactic| ktr_enter) => `(tactic| (refine' code_defS0 ?k1 ?k2 ?k3 ?k4 ?k5 ?kA ?k6 ?k7 ?k8 ?k9 ?kB ?_ ?kK ?c2 ?c3 ?c4 ?c5; (case kA => exact rfl); (case kK | k1 => assumption); (case k2 | k3 => assumption); (case k4 | k5 => assumption); (case k6 | k7 => k_is); (case k8 => k_room); (case k9 => exact BindsTo.of_eq rfl); (case c5 => decide); (case kB => exact locs rfl); (case c2 | c3 | c4 => exact rfl); k_whole; intro g' L' h' FG' F' N' B' X' T' D'; (try dsimp only); (try k_fold)))
set_option hygiene true
local macro_rules | `(tactic| k_steps) => `(tactic| repeat' ((fail_if_success (with_reducible first | show wpAny _ _ (exec (Stmt.For _ _ _ _ _) _) _ _ _ | show wpAny _ _ (exec (Stmt.Try _ _ _ _ _) _) _ _ _ | show wpAny _ _ (exec (Stmt.If _ _ _ _) _) _ _ _ | show wpAny _ _ (compareOp _ (Value.ref _) (Value.ref _)) _ _ _ | show wpAny _ _ (pyIter _) _ _ _ | show wpAny _ _ (call (Value.ref 334) _) _ _ _ | show wpAny _ _ (call (Value.ref 341) _) _ _ _ | show wpAny _ _ (call (Value.ref 96) _) _ _ _)); first | (k_unfold; (try dsimp only)) | walk1 | (dsimp only; walk1) | (leave1; walk_say "STEP leave1"; try dsimp only) | fail "no step"))

/-- what stands behind `levels = ..` -/
def AfterLev (g : Heap) (L l : Addr) (ws : List Value) (c : Nat) (s : Shared) (f : Flow) (s' : Shared) : Prop :=
  f = .next ∧ ∃ lv t h tk, s' = { s with heap := h, toks := tk } ∧ 0 ≤ lv ∧ lv < 44 ∧ Fr g L h (fun y => if y = Str.ofString "levels" then some (.int lv t) else List.lookup y [(Str.ofString "script", .ref l)]) ∧ News g L h [(l, listOf ws.toArray c)]
def AfterFoot (g : Heap) (L l : Addr) (ws : List Value) (c : Nat) (lv : Int) (lt : Tok) (s : Shared) (f : Flow) (s' : Shared) : Prop :=
  f = .next ∧ ∃ x tl h tk, s' = { s with heap := h, toks := tk } ∧ Fr g L h (fun y => if y = Str.ofString "foot" then some (.ref x) else if y = Str.ofString "levels" then some (.int lv lt) else List.lookup y [(Str.ofString "script", .ref l)]) ∧ News g L h ((l, listOf ws.toArray c) :: tl) ∧ FootOn (MadeIn tl) x
theorem Chain.snoc {P : Addr → Obj → Prop} {i : Nat} {T : Nat → Addr} {x : Addr} (c : Chain P i T) (K : LinkOn P x (100 + (i : Int)) (T i) (T (i - 1))) : Chain P (i + 1) (fun j => if j = i + 1 then x else T j) where
  foot := by rw [if_neg (by omega)]; exact c.foot
  link := fun k hk => by
    by_cases h : k = i
    · subst h
      rw [if_pos rfl, if_neg (by omega), if_neg (by omega)]
      exact K
    · rw [if_neg (by omega), if_neg (by omega), if_neg (by omega)]
      exact c.link k (by omega)
def JR (l : Addr) (ws : List Value) (c : Nat) (lv : Int) (lt : Tok) (i : Nat) (m' : Str → Option Value) (nx' : List (Addr × Obj)) : Prop :=
  ∃ T rest, m' (Str.ofString "last") = some (.ref (T i)) ∧ m' (Str.ofString "before") = some (.ref (T (i - 1))) ∧ m' (Str.ofString "script") = some (.ref l) ∧ m' (Str.ofString "levels") = some (.int lv lt) ∧ nx' = (l, listOf ws.toArray c) :: rest ∧ Chain (MadeIn rest) i T
def AfterCell (g : Heap) (L : Addr) (mF : Str → Option Value) (nx : List (Addr × Obj)) (s : Shared) (f : Flow) (s' : Shared) : Prop :=
  f = .next ∧ ∃ cv t h tk, s' = { s with heap := h, toks := tk } ∧ Fr g L h (fun y => if y = Str.ofString "cell" then some (.int cv t) else mF y) ∧ News g L h nx
def LevRight (w : World) (mean : ExcName → Option Value) (mg mb : Str → Option Value) (D U : Nat) : Prop :=
  ∀ (gd : Option (List Code)) (cn : Str) (cs : Scope) (a : Addr) (ccd : Value) (A₀ : Around) (base h₀ : Heap) (L : Addr) (m : Str → Option Value) (s : Shared)
    (Q E : Value → Shared → Prop),
    Below A₀ base [] h₀ → Fr h₀ L s.heap m → (hd.heap_1 w.params).In h₀ → Top hd.view_1 (looseW hd.view_1 [Str.ofString "is_sign"]) mean mg mb h₀ → (hd.heap_1 w.params).In base → Top hd.view_1 (looseW hd.view_1 [Str.ofString "is_sign"]) mean mg mb base → cs.kind = .function →
    ∀ (l : Addr) (ws : List Value) (ns : List Int) (c : Nat), News h₀ L s.heap [(l, listOf ws.toArray c)] → IntsAre ws ns → ns.length ≤ 63 →
    (∀ h' tk', Fr h₀ L h' m → Q (.bool true) { s with heap := h', toks := tk' }) →
    wpAny (model PySem.Challenge.rw_xw0005_01.row.prog w) (ktrTop D U gd cn cs L a ccd [] []) (call (.ref 348) [.ref l]) Q E s
set_option maxHeartbeats 40000000 in
theorem lev_right (w : World) (mean : ExcName → Option Value) (mg mb : Str → Option Value) : LevRight w mean mg mb 400 4000 := by
  unfold LevRight
  k_fill
  w_top off
  intro gd cn cs a ccd A₀ base h₀ L m s Q E B F X Tp XB TB hk l ws ns c N hI hlen hret
  refine wpAny_call ?_
  k_dflt ktr_enter
  clear F N B X Tp
  refine wpAny_execs_cons ?_
  refine wpAny_cut (P := AfterLev g' L' l ws c s) ?lev ?_
  (case lev =>
    k_steps
    rename Fr _ _ _ _ => F1
    rename News _ _ _ _ => N1
    have hl1 := lst_of (N1 (l, listOf ws.toArray c) (.tail _ (.head _))).1
    have hl2 := lst_of (N1 (_, listOf #[] 0) (.head _)).1
    cases ns with
    | nil =>
      have hw := hI.nil_inv
      refine neq_emptyB false hl1 hl2 (by simp [hw]) ?u1 ?_
      (case u1 => exact Nat.le_of_ble_eq_true rfl)
      k_steps
      rename Fr _ _ _ _ => F2
      rename News _ _ _ _ => N2
      exact ⟨rfl, 3, _, _, _, rfl, by decide, by decide, F2, fun p hp => N2 p (.tail _ hp)⟩
    | cons n0 nr =>
      obtain ⟨t0, wr, hw, _⟩ := hI.cons_inv
      refine neq_emptyB true hl1 hl2 (by simp [hw]) ?u2 ?_
      (case u2 => exact Nat.le_of_ble_eq_true rfl)
      k_steps
      rename Fr _ _ _ _ => F2
      rename News _ _ _ _ => N2
      exact ⟨rfl, _, _, _, _, rfl, Int.fmod_nonneg_of_pos _ (by decide), Int.fmod_lt_of_pos _ (by decide), F2, fun p hp => N2 p (.tail _ hp)⟩)
  rintro f s1 ⟨rfl, lv, lt, h1, tk1, rfl, lv0, lv44, F1, N1⟩
  dsimp only
  clear F' N'
  k_steps
  rename Fr _ _ _ _ => F2
  rename News _ _ _ _ => N2
  refine whole_use2 B' F2 X' N2 T' rfl ?d1 ?u1 ?_
  (case d1 => exact Nat.le_of_ble_eq_true rfl)
  (case u1 => exact Nat.le_of_ble_eq_true rfl)
  intro x0 tl0 h2 tk2 F3 N3 hf0
  clear F2 N2
  k_steps
  rename Fr _ _ _ _ => F4
  rename News _ _ _ _ => N4
  refine wpAny_cut (P := AfterFoot g' L' l ws c lv lt s) ?foot ?_
  (case foot =>
    walk1
    k_steps
    · rename Fr _ _ _ _ => F5
      rename News _ _ _ _ => N5
      refine whole_use B' F5 X' N5 T' rfl ?d2 ?u2 ?_
      (case d2 => exact Nat.le_of_ble_eq_true rfl)
      (case u2 => exact Nat.le_of_ble_eq_true rfl)
      intro x1 h3 tk3 F6 N6
      clear F5 N5
      k_steps
      rename Fr _ _ _ _ => F7
      rename News _ _ _ _ => N7
      refine ⟨rfl, _, _, _, _, rfl, fr_over F7, fun p hp => (List.mem_cons.mp hp).elim (fun e => e ▸ N7 _ (by k_mem)) (N7 p), FootOn.access ⟨_, _, by k_mem, by k_mem⟩ (TyEs.fields (by assumption)) (by k_mem)⟩
    · rename Fr _ _ _ _ => F5
      rename News _ _ _ _ => N5
      exact ⟨rfl, x0, tl0, _, _, rfl, F5, N5, hf0⟩
    · rename Fr _ _ _ _ => F5
      rename News _ _ _ _ => N5
      exact ⟨rfl, x0, tl0, _, _, rfl, F5, N5, hf0⟩)
  clear F4 N4 hf0
  rintro f s2 ⟨rfl, x, tl, h3, tk3, rfl, F1, N1, hf⟩
  dsimp only
  k_steps
  rename Fr _ _ _ _ => F2
  rename News _ _ _ _ => N2
  refine' For_invVF F2 ?k1 ?k2 ?k3 ?k4 ?k5
  (case k1 => exact rfl)
  (case k2 => exact rfl)
  (case k4 => intro _; rfl)
  (case k5 => passes_own)
  k_steps
  rename Fr _ _ _ _ => F3
  rename News _ _ _ _ => N3
  rename IsRange _ _ _ _ _ _ _ _ => RA
  refine loop_range (n := lv.toNat) (JR l ws c lv lt) rfl RA (small_one (by decide) (by decide) (by omega) (by omega)) (by rw [rangeSize_nat, Int.sub_zero]) F3 (fun p hp => N3 p (.tail _ hp)) ?hj ?turn ?done
  (case hj => exact ⟨fun _ => x, tl, rfl, rfl, rfl, rfl, rfl, ⟨hf, fun k h => absurd h (Nat.not_lt_zero k)⟩⟩)
  (case done =>
    rintro m₁ nx h4 tk4 ⟨T, rest, e1, e2, e3, e4, rfl, C⟩ F4 N4
    have F5 : Fr g' L' h4 _ := fr_all4 F4 e1 e2 e3 e4
    have N5 : News g' L' h4 _ := N4
    clear F4 N4
    dsimp only
    k_steps
    refine wpAny_Try_except ?_
    k_steps
    rename News _ _ _ _ => NZ
    rename Fr _ _ _ _ => FZ
    have q1 := NZ _ (.tail _ (.tail _ (.tail _ (.tail _ (.head _)))))
    have q2 := NZ _ (.tail _ (.tail _ (.tail _ (.tail _ (.tail _ (.head _))))))
    have NS : News g' L' _ (_ :: _ :: rest) := List.forall_mem_cons.mpr ⟨q1, List.forall_mem_cons.mpr ⟨q2, fun p hp => NZ p (.tail _ (.tail _ (.tail _ (.tail _ (.tail _ (.tail _ (.tail _ (.tail _ hp))))))))⟩⟩
    clear q1 q2
    refine wpAny_room (d := 490) (u := 4900) ?rd ?ru (check_levels_K w mean mg mb _ _ _ _ _ _ _ _ base g' L' _ _ _ _ B' FZ X' T' rfl _ _ _ _ _ rest lv.toNat T NS (by k_get) C (by omega) ?ok ?thr)
    (case rd => exact Nat.le_of_ble_eq_true rfl)
    (case ru => exact Nat.le_of_ble_eq_true rfl)
    (case ok =>
      intro hle h7 tk7 F10 N10
      clear NS NZ FZ
      dsimp only
      k_steps
      refine leaveS0_ F10 N10 KtsTurn.refl fun FX _ => ?_
      have hb : decide (lv ≤ 40) = true := decide_eq_true (by omega)
      show Q (.bool (decide (lv ≤ 40))) _
      rw [hb]
      exact hret _ _ FX)
    (case thr =>
      intro h40 g₂ e t vs h7 tk7 F10 R10 U10
      clear NS NZ FZ
      dsimp only
      k_steps
      rename Fr _ _ _ _ => FC
      rename News _ _ _ _ => NC
      rename KtsTurn _ _ _ => TC
      refine leaveS0_ FC NC TC fun FX _ => ?_
      have hb : decide (40 < lv) = true := decide_eq_true (by omega)
      show Q (.bool (decide (40 < lv))) _
      rw [hb]
      exact hret _ _ FX))
  rintro I i ti m₁ nx h4 tk4 oI hi ⟨T, rest, e1, e2, e3, e4, rfl, C⟩ off F4 N4
  clear F3 N3 RA
  have F5 : Fr g' L' h4 _ := fr_known4 F4 e1 e2 e3 e4
  have N5 : News g' L' h4 _ := N4
  clear F4 N4
  refine wpAny_execs_cons ?_
  refine wpAny_cut (P := AfterCell g' L' (fun y => if y = Str.ofString "turn" then some (.int (0 + (i : Int)) ti) else if y = Str.ofString "last" then some (.ref (T i)) else if y = Str.ofString "before" then some (.ref (T (i - 1))) else if y = Str.ofString "script" then some (.ref l) else if y = Str.ofString "levels" then some (.int lv lt) else m₁ y) ((I, oI) :: (l, listOf ws.toArray c) :: rest) s) ?cell ?_
  (case cell =>
    k_steps
    · rename (3 < _) => h3
      have f0 : 0 ≤ (0 + (i : Int)).fmod ((ns.length : Int) - 3) := Int.fmod_nonneg_of_pos _ (by omega)
      have f1 : (0 + (i : Int)).fmod ((ns.length : Int) - 3) < (ns.length : Int) - 3 := Int.fmod_lt_of_pos _ (by omega)
      have hlw : ws.length = ns.length := hI.length
      obtain ⟨v, hv⟩ : ∃ v, ws[(3 + (0 + (i : Int)).fmod ((ns.length : Int) - 3)).toNat]? = some v := ⟨_, List.getElem?_eq_getElem (by omega)⟩
      obtain ⟨cv, ct, rfl, _⟩ := hI.at _ _ hv
      have hls := lst_of (N5 (l, listOf ws.toArray c) (.tail _ (.head _))).1
      refine tail_any hls.typeIs slot_list_getitem.lookup (wpAny_getItem_list hls (by omega) (by omega) (by simpa using hv) ?_) (by with_unfolding_all rfl)
      k_steps
      rename Fr _ _ _ _ => F6
      rename News _ _ _ _ => N6
      exact ⟨rfl, _, _, _, _, rfl, F6, N6⟩
    · rename Fr _ _ _ _ => F6
      rename News _ _ _ _ => N6
      exact ⟨rfl, _, _, _, _, rfl, F6, N6⟩)
  clear F5 N5
  rintro f s3 ⟨rfl, cv, ct, h5, tk5, rfl, F5, N5⟩
  dsimp only at F5 ⊢
  k_steps
  rename Fr _ _ _ _ => F6
  rename News _ _ _ _ => N6
  refine does_use (link_does w mean mg mb _ _ _ _ (T i) (T (i - 1)) (Int.fmod_nonneg_of_pos _ (by decide)) (Int.fmod_lt_of_pos _ (by decide))) B' F6 X' N6 T' rfl ?ld ?lu trivial ?_
  (case ld => exact Nat.le_of_ble_eq_true rfl)
  (case lu => exact Nat.le_of_ble_eq_true rfl)
  rintro r tl2 h6 tk6 F7 N7 ne7 ⟨a7, rfl, K7⟩
  have N8 : News g' L' h6 ((I, oI) :: (l, listOf ws.toArray c) :: (tl2 ++ rest)) := fun p hp => N7 p (by
    rcases List.mem_cons.mp hp with rfl | hp
    · exact List.mem_append_right _ (.head _)
    rcases List.mem_cons.mp hp with rfl | hp
    · exact List.mem_append_right _ (.tail _ (.head _))
    exact (List.mem_append.mp hp).elim (fun q => List.mem_append_left _ q) fun q => List.mem_append_right _ (.tail _ (.tail _ q)))
  have C8 : Chain (MadeIn (tl2 ++ rest)) (i + 1) (fun j => if j = i + 1 then a7 else T j) :=
    Chain.snoc (C.mono fun a o h => List.mem_append_right _ h) (by rw [← Int.zero_add (i : Int)]; exact K7.mono fun a o h => List.mem_append_left _ h)
  clear F6 N6 N7 K7 C
  k_steps
  rename Fr _ _ _ _ => F9
  rename News _ _ _ _ => N9
  refine ⟨_, _, _, _, (l, listOf ws.toArray c) :: (tl2 ++ rest), rfl, F9, N9, ?n1, ?n2, ?n3, (fun j => if j = i + 1 then a7 else T j), tl2 ++ rest, ?n4, ?n5, ?n6, ?n7, rfl, C8⟩
  (case n1 => exact fun p hp => .tail _ (.tail _ hp))
  (case n2 =>
    intro p hp
    rw [List.mem_singleton.mp hp]
    exact .tail _ (.head _))
  (case n3 =>
    intro p hp
    rcases List.mem_cons.mp hp with rfl | hp
    · exact off (l, listOf ws.toArray c) (.head _)
    rcases List.mem_append.mp hp with hp | hp
    · exact ne7 (I, oI) (.head _) p hp
    · exact off p (.tail _ hp))
  (case n4 =>
    show _ = some (Value.ref (if i + 1 = i + 1 then a7 else T (i + 1)))
    rw [if_pos (rfl : i + 1 = i + 1)]
    rfl)
  (case n5 =>
    show _ = some (Value.ref (if i + 1 - 1 = i + 1 then a7 else T (i + 1 - 1)))
    rw [if_neg (by omega : ¬ i + 1 - 1 = i + 1), Nat.add_sub_cancel]
    rfl)
  (case n6 => exact rfl)
  (case n7 => exact rfl)

-- part LvTup
section
variable {prog : Program} {w : World} {A : Around} {E : Value → Shared → Prop} {s : Shared} {h₀ : Heap} {L t : Addr} {m : Str → Option Value} {news : List (Addr × Obj)} {value slice : Expr}
/-- t[1:] of a tuple of the ledger -/
theorem slice_rest {x : Value} {vs : List Value} {u : Tok} {Q : Value → Shared → Prop} (F : Fr h₀ L s.heap m) (N : News h₀ L s.heap news) (hm : (t, tupObj (x :: vs)) ∈ news)
    (h : ∀ D h', Fr h₀ L h' m → News h₀ L h' ((D, tupObj vs) :: news) → (∀ p ∈ news, p.1 < D) → Q (.ref D) { s with heap := h' })
    (hs : subscripted slice false (.ref t) (.ref s.heap.objs.size) = operate [.ref s.heap.objs.size, .ref t] (getItem (.ref t) (.ref s.heap.objs.size)))
    (hg : ∀ r, letTemporaryGo value (.ref t) r = pure ()) (hz : (x :: vs).toArray.size ≤ sizeLine) :
    wpAny (model prog w) A (subscriptTail value slice (.ref t) (.ref s.heap.objs.size)) Q E { s with heap := s.heap.push { cls := .type "slice", data := .fields #[.int 1 u, .none, .none] } } :=
  slice_tuple_from (a := 1) F N (tup_of (N _ hm).1) (Nat.le_refl 1) (by simp) (fun h' F' N' => h _ h' F' N' fun p hp => Nat.lt_succ_of_lt (Heap.lt_size (N p hp).1)) hs hg hz

theorem sliceApplied_to2 {sl : Addr} {u : Tok} {Q : Int × Int × Nat → Shared → Prop} (hs : s.heap.IsSliceOf sl .none (.int 2 u) .none) (h : Q (0, 1, 2) s) :
    wpAny (model prog w) A (Builtin.Slice.sliceApplied (.ref sl) (pure (3 : Int))) Q E s := by
  obtain ⟨os, hos, hcs, hds⟩ := id hs
  unfold Builtin.Slice.sliceApplied Builtin.Slice.sliceFields
  refine wpAny_bind (wpAny_bind (wpAny_field hos hds (x := .none) rfl (wpAny_bind (wpAny_field hos hds (x := .int 2 u) rfl (wpAny_bind (wpAny_field hos hds (x := .none) rfl (wpAny_pure ?_)))))))
  refine wpAny_bind (slicePart_none ?_)
  show wpAny _ _ (if ((1 : Int) == 0) = true then _ else _) _ _ s
  rw [if_neg (by decide)]
  refine wpAny_bind (slicePart_none (wpAny_bind (slicePart_int (wpAny_bind (wpAny_pure ?_)))))
  show wpAny _ _ (pure ((0 : Int), (1 : Int), 2)) _ _ s
  exact wpAny_pure h
theorem getItem_tuple_to2 {sl : Addr} {a b c : Value} {u : Tok} {Q : Value → Shared → Prop} (ht : IsTup s.heap t #[a, b, c]) (hs : s.heap.IsSliceOf sl .none (.int 2 u) .none)
    (h : Q (.ref s.heap.objs.size) { s with heap := s.heap.push (tupObj [a, b]) }) : wpAny (model prog w) A (getItem (.ref t) (.ref sl)) Q E s := by
  have hz : sizeOk (.seq [a, b].toArray) := (show 2 ≤ sizeLine from Nat.le_of_ble_eq_true rfl)
  obtain ⟨os, hos, hcs, hds⟩ := id hs
  have hTs : s.TypeIs (.ref sl) "slice" := ⟨os, hos, hcs⟩
  unfold getItem
  try with_reducible refine wpAny_holding ?_
  first | refine wpAny_bind (wpAny_pure ?_) | skip
  refine wpAny_bind (wpAny_sequenceKey ht.typeIs (by decide) ?_)
  refine wpAny_bind (wpAny_callSpecial?_slot (name := Str.ofString "__getitem__") ht.typeIs slot_tuple_getitem
    (wpAny_call_entry slot_tuple_getitem ht.typeIs entry_tuple_getitem ?_ (args_tuple_getitem _ _)))
  show wpAny _ _ (Builtin.Tuple.tupleItemsOf (.ref t) >>= _) _ _ s
  refine wpAny_bind (tupleItemsOf_ ht ?_)
  refine wpAny_bind (wpAny_typeOf hTs ?_)
  rw [if_pos (by decide)]
  refine wpAny_bind (sliceApplied_to2 hs ?_)
  show wpAny _ _ (if ((0 : Int) == 0 && (1 : Int) == 1 && 2 == 3) = true then _ else _) _ _ s
  rw [if_neg (by decide)]
  first
    | exact wpAny_bind (m := Builtin.Tuple.tupleExact _) (wpAny_newObj_type (wpAny_pure ⟨_, rfl, wpAny_pure h⟩) hz)
    | exact wpAny_bind (m := Builtin.Tuple.tupleExact _) (wpAny_newObj_type (wpAny_bind (wpAny_pure (wpAny_pure ⟨_, rfl, wpAny_pure h⟩))) hz)
    | exact wpAny_bind (wpAny_bind (m := Builtin.Tuple.tupleExact _) (wpAny_newObj_type (wpAny_pure (wpAny_pure ⟨_, rfl, wpAny_pure h⟩)) hz))
    | exact wpAny_bind (wpAny_bind (m := Builtin.Tuple.tupleExact _) (wpAny_newObj_type (wpAny_pure ⟨_, rfl, wpAny_pure h⟩) hz))
/-- t[:2] of a tuple of three of the ledger -/
theorem slice_to2 {a b c : Value} {u : Tok} {Q : Value → Shared → Prop} (F : Fr h₀ L s.heap m) (N : News h₀ L s.heap news) (hm : (t, tupObj [a, b, c]) ∈ news)
    (h : ∀ D h', Fr h₀ L h' m → News h₀ L h' ((D, tupObj [a, b]) :: news) → (∀ p ∈ news, p.1 < D) → Q (.ref D) { s with heap := h' })
    (hs : subscripted slice false (.ref t) (.ref s.heap.objs.size) = operate [.ref s.heap.objs.size, .ref t] (getItem (.ref t) (.ref s.heap.objs.size)))
    (hg : ∀ r, letTemporaryGo value (.ref t) r = pure ()) :
    wpAny (model prog w) A (subscriptTail value slice (.ref t) (.ref s.heap.objs.size)) Q E { s with heap := s.heap.push { cls := .type "slice", data := .fields #[.none, .int 2 u, .none] } } := by
  have ht' : IsTup (s.heap.push { cls := .type "slice", data := .fields #[.none, .int 2 u, .none] }) t #[a, b, c] := (tup_of (N _ hm).1).keeps fun _ _ e => Heap.get?_push_of_some _ e
  refine subscriptTail_ops (s := { s with heap := s.heap.push { cls := .type "slice", data := .fields #[.none, .int 2 u, .none] } }) ht'.typeIs slot_tuple_getitem.lookup
    (getItem_tuple_to2 ht' (Heap.IsSliceOf.new ..) ?_) hs hg
  have N1 := News.push (F.push { cls := .type "slice", data := .fields #[.none, .int 2 u, .none] }) (N.grown fun _ _ e => Heap.get?_push_of_some _ e) (tupObj [a, b])
  exact h _ _ ((F.push _).push _) N1 fun p hp => by rw [Heap.size_push]; exact Nat.lt_succ_of_lt (Heap.lt_size (N p hp).1)
end

-- part LvTree
local macro_rules | `(tactic| ktr_enter) => `(tactic| (refine' code_defW ?k1 ?k2 ?k3 ?k4 ?k5 ?kA ?kF ?kK ?k6 ?k7 ?k8 ?k9 ?kB ?_ ?c2 ?c3 ?c4 ?c5; (case kA | kF => exact rfl); (case kK => assumption); (case k1 | k2 => k_asm); (case k3 | k4 | k5 => k_asm); (case k6 | k7 => k_is); (case k8 => k_room); (case k9 => exact BindsTo.of_eq rfl); (case c5 => decide); (case kB => exact locs rfl); (case c2 | c3 | c4 => exact rfl); k_whole; intro g' L' h' hg' F' N' B' X' T'; (try dsimp only); (try k_fold)))
local macro_rules | `(tactic| k_steps) => `(tactic| repeat' (first | (k_unfold; (try dsimp only)) | walk1 | (dsimp only; walk1) | (leave1; walk_say "STEP leave1"; try dsimp only) | fail "no step"))
local macro_rules | `(tactic| walk_at "subscriptTail") => `(tactic| (k_here; (with_reducible show wpAny _ _ (subscriptTail _ (PySem.Expr.Slice (some _) none none _) (Value.ref _) (Value.ref _)) _ _ _); k_dflt (refine' slice_rest ?F ?N ?p ?_ ?s ?t ?z; (case F | N => k_asm); (case p => k_mem); (case s => with_unfolding_all rfl); (case t => (intro _; with_unfolding_all rfl)); (case z => exact Nat.le_of_ble_eq_true rfl)); intro D' h' F' N' l1; (try k_lt l1); (try k_sweep)))
local macro_rules | `(tactic| walk_at "subscriptTail") => `(tactic| (k_here; (with_reducible show wpAny _ _ (subscriptTail _ (PySem.Expr.Slice none (some _) none _) (Value.ref _) (Value.ref _)) _ _ _); k_dflt (refine' slice_to2 ?F ?N ?p ?_ ?s ?t; (case F | N => k_asm); (case p => k_mem); (case s => with_unfolding_all rfl); (case t => (intro _; with_unfolding_all rfl))); intro D' h' F' N' l1; (try k_lt l1); (try k_sweep)))
local macro_rules | `(tactic| walk_at "exec For Name Subscript") => `(tactic| (k_here; (rename Fr _ _ _ _ => lF'); (with_unfolding_all refine' For_turns lF' ?_; k_whole)))

set_option maxHeartbeats 40000000 in
theorem tree_foot (w : World) (mean : ExcName → Option Value) (mg mb : Str → Option Value) (x : Addr) (t1 t2 : Tok) :
    DoesL w mean mg mb 500 5000 203 [.ref x] [(x, tupObj [.str (Str.ofString "name") t1, .str (Str.ofString "g") t2])] #[] := by
  unfold DoesL
  k_fill
  w_top off
  intro gd cn cs a ccd cl outer A₀ base h₀ L m s Q E B F X N T hk hret
  refine wpAny_call ?_
  k_dflt ktr_enter
  k_steps
  rename (_ = hideAll _ _) => hg
  rename (Heap.StaysIn _ _) => st
  exact doesL_end hg N st (by k_asm) (by k_asm) (by k_asm) (by k_mem) (by k_mem) (by repeat (first | (refine List.forall_mem_cons.mpr ⟨by k_mem, ?_⟩) | exact List.forall_mem_nil _)) (by k_all) fun a b c d => hret _ _ _ _ a b c d
set_option maxHeartbeats 40000000 in
theorem tree_link (w : World) (mean : ExcName → Option Value) (mg mb : Str → Option Value) (x y : Addr) (t1 t2 : Tok) (wd : Str) (vs : List Value) :
    DoesL w mean mg mb 500 5000 203 [.ref x] [(x, tupObj [.str (Str.ofString "select") t1, .ref y, .str wd t2]), (y, tupObj vs)] #[.ref y] := by
  unfold DoesL
  k_fill
  w_top off
  intro gd cn cs a ccd cl outer A₀ base h₀ L m s Q E B F X N T hk hret
  refine wpAny_call ?_
  k_dflt ktr_enter
  k_steps
  rename (_ = hideAll _ _) => hg
  rename (Heap.StaysIn _ _) => st
  exact doesL_end hg N st (by k_asm) (by k_asm) (by k_asm) (by k_mem) (by k_mem) (by repeat (first | (refine List.forall_mem_cons.mpr ⟨by k_mem, ?_⟩) | exact List.forall_mem_nil _)) (by k_all) fun a b c d => hret _ _ _ _ a b c d

-- part LvTok
local macro_rules | `(tactic| k_steps) => `(tactic| repeat' ((fail_if_success (with_reducible show wpAny _ _ (subscriptTail _ _ (Value.ref _) (Value.int _ _)) _ _ _)); first | (k_unfold; (try dsimp only)) | walk1 | (dsimp only; walk1) | (leave1; walk_say "STEP leave1"; try dsimp only) | fail "no step"))

def TokenAhead (w : World) (mean : ExcName → Option Value) (mg mb : Str → Option Value) (D U : Nat) : Prop :=
  ∀ (gd : Option (List Code)) (cn : Str) (cs : Scope) (a : Addr) (ccd : Value) (cl : List (Str × Addr)) (outer : List Env) (A₀ : Around) (base h₀ : Heap) (L : Addr) (m : Str → Option Value) (s : Shared)
    (Q E : Value → Shared → Prop),
    Below A₀ base outer h₀ → Fr h₀ L s.heap m → (hd.heap_1 w.params).In h₀ →  Top hd.view_1 (looseW hd.view_1 [Str.ofString "is_sign"]) mean mg mb h₀ → cs.kind = .function →
    ∀ (r dr tl tok : Addr) (es : List DictEntry) (n c : Nat) (items : Array Value) (i : Int) (t0 : Tok), News h₀ L s.heap [(r, instObj 135 dr), (dr, dictOf es n), (tl, listOf items c)] → RdEs es tl i → 0 ≤ i → items.size ≤ 200 → items[i.toNat]? = some (.ref tok) →
    (∀ h' tk', Fr h₀ L h' m → s.heap.StaysIn h' → Q (.ref tok) { s with heap := h', toks := tk' }) →
    wpAny (model PySem.Challenge.rw_xw0005_01.row.prog w) (ktrTop D U gd cn cs L a ccd cl outer) (call (.ref 146) [.ref r, .int 0 t0]) Q E s
set_option maxHeartbeats 40000000 in
theorem token_ahead (w : World) (mean : ExcName → Option Value) (mg mb : Str → Option Value) : TokenAhead w mean mg mb 560 5600 := by
  unfold TokenAhead
  k_fill
  w_top off
  intro gd cn cs a ccd cl outer A₀ base h₀ L m s Q E B F X T hk r dr tl tok es n c items i t0 N R hi0 hsz hit hret
  obtain ⟨hR1, ⟨ua, hR2⟩, ⟨ub, hR3⟩, hR4⟩ := R
  have hlt : i < (items.size : Int) := by
    have := (Array.getElem?_eq_some_iff.mp hit).1
    omega
  refine wpAny_call ?_
  k_dflt ktr_enter
  k_steps
  rename News _ _ _ _ => N1
  have e1 : i + 0 = i := Int.add_zero i
  refine tail_any (lst_of (N1 (tl, listOf items c) (by k_mem)).1).typeIs slot_list_getitem.lookup (wpAny_getItem_list (lst_of (N1 (tl, listOf items c) (by k_mem)).1) (by omega) (by omega) (by rw [e1]; exact hit) ?_) (by with_unfolding_all rfl)
  k_steps
  rename Fr _ _ _ _ => FZ
  rename News _ _ _ _ => NZ
  rename (_ = hideAll _ _) => hg
  rename (Heap.StaysIn _ _) => st
  exact hret _ _ FZ (stays_hidden hg (fun p hp => (N p hp).1) st fun p hp => (NZ p hp).1)
theorem tokenAhead_use {w : World} {mean : ExcName → Option Value} {mg mb : Str → Option Value} {dp un : Nat} {gd : Option (List Code)} {cn : Str} {cs : Scope} {a : Addr} {ccd : Value} {cl : List (Str × Addr)} {outer : List Env} {A₀ : Around} {base h₀ : Heap} {L : Addr} {m : Str → Option Value} {news : List (Addr × Obj)} {s : Shared}
    {Q E : Value → Shared → Prop} {r dr tl tok : Addr} {es : List DictEntry} {n c : Nat} {items : Array Value} {i : Int} {t0 : Tok}
    (B : Below A₀ base outer h₀) (F : Fr h₀ L s.heap m) (X : (hd.heap_1 w.params).In h₀) (N : News h₀ L s.heap news) (T : Top hd.view_1 (looseW hd.view_1 [Str.ofString "is_sign"]) mean mg mb h₀)
    (hk : cs.kind = .function) (hd : dp ≤ 560) (hu : un ≤ 5600) (h1 : (r, instObj 135 dr) ∈ news) (h2 : (dr, dictOf es n) ∈ news) (h3 : (tl, listOf items c) ∈ news) (R : RdEs es tl i) (hi : 0 ≤ i) (hz : items.size ≤ 200) (hit : items[i.toNat]? = some (.ref tok))
    (ret : ∀ h' tk', Fr h₀ L h' m → News h₀ L h' news → Q (.ref tok) { s with heap := h', toks := tk' }) :
    wpAny (model PySem.Challenge.rw_xw0005_01.row.prog w) (ktrTop dp un gd cn cs L a ccd cl outer) (call (.ref 146) [.ref r, .int 0 t0]) Q E s :=
  wpAny_room (d := 560) (u := 5600) hd hu (token_ahead w mean mg mb gd cn cs a ccd cl outer A₀ base h₀ L m s Q E B F X T hk r dr tl tok es n c items i t0
    (List.forall_mem_cons.mpr ⟨N _ h1, List.forall_mem_cons.mpr ⟨N _ h2, List.forall_mem_cons.mpr ⟨N _ h3, fun _ h => nomatch h⟩⟩⟩) R hi hz hit fun h' tk' F' st => ret h' tk' F' fun p hp => ⟨st _ _ (N p hp).1, (N p hp).2⟩)
local macro_rules | `(tactic| k_steps) => `(tactic| repeat' (first | (k_unfold; (try dsimp only)) | walk1 | (dsimp only; walk1) | (leave1; walk_say "STEP leave1"; try dsimp only) | fail "no step"))
local macro_rules | `(tactic| walk_at "call ref") => `(tactic| (k_here; (with_reducible show wpAny _ _ (call (Value.ref 146) _) _ _ _); k_dflt (refine' tokenAhead_use ?k1 ?k2 ?k3 ?k4 ?k5 ?kK ?kd ?ku ?m1 ?m2 ?m3 ?mR ?mi ?mz ?mt ?_; (case k1 | k2 => k_asm); (case k3 | k4 | k5 => k_asm); (case kK => exact rfl); (case kd | ku => exact Nat.le_of_ble_eq_true rfl); (case m1 => k_mem); (case mR => assumption); (case m2 | m3 => k_mem); (case mi | mz | mt => assumption); k_whole; intro h' tk' F' N'; (try k_sweep); (try dsimp only))))
set_option hygiene false
local macro_rules | `(tactic| walk_at "setAttr ref") => `(tactic| (k_here; k_dflt (refine' set_dict ?k1 ?k2 ?k3 ?k4 ?k5 ?k6 ?k7 ?k8 ?k9 ?k10 ?k11 ?k12 ?k13 ?_; (case k1 | k2 | k3 => k_asm); (case k4 => k_inst); (case k5 => exact rfl); (case k6 | k7 => k_is); (case k8 | k9 => k_is); (case k10 => (first | (rw [hR2]; exact rfl) | assumption)); (case k11 => exact rfl); (case k12 => k_upd); (case k13 => (rw [putL_len (getL_fnd.mp hR2)]; exact Nat.le_trans hR4 (Nat.le_of_ble_eq_true rfl))); k_whole; intro h' F' N'; (try k_sweep))))
set_option hygiene true

/-- what a call does that moves the reader on by one -/
def Moves (w : World) (mean : ExcName → Option Value) (mg mb : Str → Option Value) (D U : Nat) (f : Addr) (r : Addr) (more : List Value) (k v : Str) (res : Value → Prop) : Prop :=
  ∀ (gd : Option (List Code)) (cn : Str) (cs : Scope) (a : Addr) (ccd : Value) (cl : List (Str × Addr)) (outer : List Env) (A₀ : Around) (base h₀ : Heap) (L : Addr) (m : Str → Option Value) (s : Shared)
    (Q E : Value → Shared → Prop),
    Below A₀ base outer h₀ → Fr h₀ L s.heap m → (hd.heap_1 w.params).In h₀ →  Top hd.view_1 (looseW hd.view_1 [Str.ofString "is_sign"]) mean mg mb h₀ → cs.kind = .function →
    ∀ (dr tl tok : Addr) (es : List DictEntry) (n c : Nat) (items : Array Value) (i : Int) (t1 t2 t3 : Tok), News h₀ L s.heap [(r, instObj 135 dr), (dr, dictOf es n), (tl, listOf items c), (tok, tupObj [.str k t1, .str v t2, .int 1 t3])] → RdEs es tl i → 0 ≤ i → items.size ≤ 200 → items[i.toNat]? = some (.ref tok) →
    (∀ x h' tk' es' n', res x → Fr h₀ L h' m → h'.get? dr = some (dictOf es' n') → RdEs es' tl (i + 1) → (∀ b o, b ≠ dr → s.heap.get? b = some o → h'.get? b = some o) → Q x { s with heap := h', toks := tk' }) →
    wpAny (model PySem.Challenge.rw_xw0005_01.row.prog w) (ktrTop D U gd cn cs L a ccd cl outer) (call (.ref f) (.ref r :: more)) Q E s
set_option maxHeartbeats 40000000 in
theorem take_dot (w : World) (mean : ExcName → Option Value) (mg mb : Str → Option Value) (r : Addr) (tq : Tok) : Moves w mean mg mb 530 5300 189 r [.str (Str.ofString ".") tq] (Str.ofString "op") (Str.ofString ".") (fun x => x = .bool true) := by
  unfold Moves
  k_fill
  w_top off
  intro gd cn cs a ccd cl outer A₀ base h₀ L m s Q E B F X T hk dr tl tok es n c items i t1 t2 t3 N R hi0 hsz hit hret
  have hR := R
  obtain ⟨hR1, ⟨ua, hR2⟩, ⟨ub, hR3⟩, hR4⟩ := R
  have d1 : @Ne Nat r dr := news_apart N (by k_mem) (by k_mem) (fun e => by cases e)
  have d2 : @Ne Nat tl dr := news_apart N (by k_mem) (by k_mem) (fun e => by cases e)
  have d3 : @Ne Nat tok dr := news_apart N (by k_mem) (by k_mem) (fun e => by cases e)
  refine wpAny_call ?_
  k_dflt ktr_enter
  k_steps
  rename Fr _ _ _ _ => FZ
  rename News _ _ _ _ => NZ
  rename (_ = hideAll _ _) => hg
  rename (Heap.StaysIn _ _) => st
  exact hret _ _ _ _ _ rfl FZ (NZ (dr, _) (by k_mem)).1 hR.put (stays_but hg (fun p hp => (N p hp).1) st (List.forall_mem_cons.mpr ⟨fun _ => (NZ _ (by k_mem)).1, List.forall_mem_cons.mpr ⟨fun ne => absurd rfl ne, List.forall_mem_cons.mpr ⟨fun _ => (NZ _ (by k_mem)).1, List.forall_mem_cons.mpr ⟨fun _ => (NZ _ (by k_mem)).1, fun _ h => nomatch h⟩⟩⟩⟩))

/-- a call that looks at the next token and comes back with false -/
def Looks0 (w : World) (mean : ExcName → Option Value) (mg mb : Str → Option Value) (D U : Nat) (f : Addr) (r : Addr) (more : List Value) (k v : Str) : Prop :=
  ∀ (gd : Option (List Code)) (cn : Str) (cs : Scope) (a : Addr) (ccd : Value) (cl : List (Str × Addr)) (outer : List Env) (A₀ : Around) (base h₀ : Heap) (L : Addr) (m : Str → Option Value) (s : Shared)
    (Q E : Value → Shared → Prop),
    Below A₀ base outer h₀ → Fr h₀ L s.heap m → (hd.heap_1 w.params).In h₀ →  Top hd.view_1 (looseW hd.view_1 [Str.ofString "is_sign"]) mean mg mb h₀ → cs.kind = .function →
    ∀ (dr tl tok : Addr) (es : List DictEntry) (n c : Nat) (items : Array Value) (i : Int) (t1 t2 t3 : Tok), News h₀ L s.heap [(r, instObj 135 dr), (dr, dictOf es n), (tl, listOf items c), (tok, tupObj [.str k t1, .str v t2, .int 1 t3])] → RdEs es tl i → 0 ≤ i → items.size ≤ 200 → items[i.toNat]? = some (.ref tok) →
    (∀ h' tk', Fr h₀ L h' m → s.heap.StaysIn h' → Q (.bool false) { s with heap := h', toks := tk' }) →
    wpAny (model PySem.Challenge.rw_xw0005_01.row.prog w) (ktrTop D U gd cn cs L a ccd cl outer) (call (.ref f) (.ref r :: more)) Q E s
set_option maxHeartbeats 40000000 in
theorem take_end (w : World) (mean : ExcName → Option Value) (mg mb : Str → Option Value) (r : Addr) (tq : Tok) : Looks0 w mean mg mb 530 5300 189 r [.str (Str.ofString ".") tq] (Str.ofString "op") (Str.ofString ";") := by
  unfold Looks0
  k_fill
  w_top off
  intro gd cn cs a ccd cl outer A₀ base h₀ L m s Q E B F X T hk dr tl tok es n c items i t1 t2 t3 N R hi0 hsz hit hret
  have hR := R
  obtain ⟨hR1, ⟨ua, hR2⟩, ⟨ub, hR3⟩, hR4⟩ := R
  have d1 : @Ne Nat r dr := news_apart N (by k_mem) (by k_mem) (fun e => by cases e)
  have d2 : @Ne Nat tl dr := news_apart N (by k_mem) (by k_mem) (fun e => by cases e)
  have d3 : @Ne Nat tok dr := news_apart N (by k_mem) (by k_mem) (fun e => by cases e)
  refine wpAny_call ?_
  k_dflt ktr_enter
  k_steps
  rename Fr _ _ _ _ => FZ
  rename News _ _ _ _ => NZ
  rename (_ = hideAll _ _) => hg
  rename (Heap.StaysIn _ _) => st
  exact hret _ _ FZ (stays_hidden hg (fun p hp => (N p hp).1) st fun p hp => (NZ p (by repeat (first | exact hp | apply List.Mem.tail))).1)
set_option maxHeartbeats 40000000 in
theorem need_name (w : World) (mean : ExcName → Option Value) (mg mb : Str → Option Value) (r : Addr) (v : Str) : Moves w mean mg mb 530 5300 196 r [] (Str.ofString "name") v (fun x => ∃ t, x = .str v t) := by
  unfold Moves
  k_fill
  w_top off
  intro gd cn cs a ccd cl outer A₀ base h₀ L m s Q E B F X T hk dr tl tok es n c items i t1 t2 t3 N R hi0 hsz hit hret
  have hR := R
  obtain ⟨hR1, ⟨ua, hR2⟩, ⟨ub, hR3⟩, hR4⟩ := R
  have d1 : @Ne Nat r dr := news_apart N (by k_mem) (by k_mem) (fun e => by cases e)
  have d2 : @Ne Nat tl dr := news_apart N (by k_mem) (by k_mem) (fun e => by cases e)
  have d3 : @Ne Nat tok dr := news_apart N (by k_mem) (by k_mem) (fun e => by cases e)
  refine wpAny_call ?_
  k_dflt ktr_enter
  k_steps
  rename Fr _ _ _ _ => FZ
  rename News _ _ _ _ => NZ
  rename (_ = hideAll _ _) => hg
  rename (Heap.StaysIn _ _) => st
  exact hret _ _ _ _ _ ⟨_, rfl⟩ FZ (NZ (dr, _) (by k_mem)).1 hR.put (stays_but hg (fun p hp => (N p hp).1) st (List.forall_mem_cons.mpr ⟨fun _ => (NZ _ (by k_mem)).1, List.forall_mem_cons.mpr ⟨fun ne => absurd rfl ne, List.forall_mem_cons.mpr ⟨fun _ => (NZ _ (by k_mem)).1, List.forall_mem_cons.mpr ⟨fun _ => (NZ _ (by k_mem)).1, fun _ h => nomatch h⟩⟩⟩⟩))

-- part LvNest
/-- a comprehension with two clauses, no tests -/
abbrev twoComp (elt iter0 iter1 : Expr) (x0 x1 : Str) (p0 p1 : Pos) (scope : Scope) (pos : Pos) : Expr := .ListComp elt [⟨.Name x0 p0, iter0, [], 0⟩, ⟨.Name x1 p1, iter1, [], 0⟩] scope pos
theorem compTurn_n0 (elt iter0 iter1 : Expr) (x0 x1 : Str) (p0 p1 : Pos) (scope : Scope) (pos : Pos) (it acc : Value) (env : Env) :
    compTurn (twoComp elt iter0 iter1 x0 x1 p0 p1 scope pos) 0 it acc env = (do
      standAt iter0.pos
      match ← pyNext it with
      | none => pure (.done .next)
      | some v =>
        letOwnedTupleGo (.Name x0 p0) it v
        assign (.Name x0 p0) env v
        let x ← eval iter1 env
        standAt iter1.pos
        let x ← foldedSetIterable iter1 env x
        let _ ← runOwn (.compStart (twoComp elt iter0 iter1 x0 x1 p0 p1 scope pos) 1 (← holding [x] (pyIter x)) acc env) env
        again (.compLoop (twoComp elt iter0 iter1 x0 x1 p0 p1 scope pos) 0 it acc env)) := by rfl
theorem compTurn_n1 (elt iter0 iter1 : Expr) (x0 x1 : Str) (p0 p1 : Pos) (scope : Scope) (pos : Pos) (it acc : Value) (env : Env) :
    compTurn (twoComp elt iter0 iter1 x0 x1 p0 p1 scope pos) 1 it acc env = (do
      standAt iter1.pos
      match ← pyNext it with
      | none => pure (.done .next)
      | some v =>
        letOwnedTupleGo (.Name x1 p1) it v
        assign (.Name x1 p1) env v
        (do let _ ← call (.builtin "list.append") [acc, ← eval elt env])
        again (.compLoop (twoComp elt iter0 iter1 x0 x1 p0 p1 scope pos) 1 it acc env)) := by rfl
section
variable {prog : Program} {w : World} {A : Around} {E : Value → Shared → Prop} {R : Result → Shared → Prop} {s : Shared} {elt iter0 iter1 : Expr} {x0 x1 : Str} {p0 p1 : Pos} {scope : Scope} {pos : Pos} {it acc : Value} {env : Env}
theorem loop_n1 (h : wpAny (model prog w) A (pyNext it) (fun r s₁ => match r with
      | none => R (.ok .next) s₁
      | some v => wpAny (model prog w) A (assign (.Name x1 p1) env v) (fun _ s₂ => wpAny (model prog w) A (eval elt env) (fun x s₃ =>
          wpAny (model prog w) A (call (.builtin "list.append") [acc, x]) (fun _ s₄ => codeAny (model prog w) A (.compLoop (twoComp elt iter0 iter1 x0 x1 p0 p1 scope pos) 1 it acc env) R s₄) (notedBy (model prog w) A env fun e s' => R (.error e) s') s₃)
          (notedBy (model prog w) A env fun e s' => R (.error e) s') s₂) (notedBy (model prog w) A env fun e s' => R (.error e) s') s₁) (notedBy (model prog w) A env fun e s' => R (.error e) s') s) :
    codeAny (model prog w) A (.compLoop (twoComp elt iter0 iter1 x0 x1 p0 p1 scope pos) 1 it acc env) R s := by
  refine codeAny_of_tree ?_
  show wpAny _ A ((compTurn (twoComp elt iter0 iter1 x0 x1 p0 p1 scope pos) 1 it acc env).onRaise (fun x => do noteFrame x env; theTreesLotGoes x)) _ _ s
  refine wpAny_noted ?_
  rw [compTurn_n1]
  refine wpAny_bind (wpAny_standAt (wpAny_bind (wpAny_mono h (fun r s₁ h₁ => ?_) fun _ _ h' => h')))
  cases r with
  | none => exact wpAny_pure h₁
  | some v =>
    refine wpAny_bind (wpAny_of_eq (a := ()) (show letOwnedTupleGo (.Name x1 p1) it v = pure () from rfl) ?_)
    exact wpAny_bind (wpAny_mono h₁ (fun _ s₂ h₂ => wpAny_bind (wpAny_bind (wpAny_mono h₂ (fun x s₃ h₃ => wpAny_bind (wpAny_mono h₃
      (fun _ s₄ h₄ => wpAny_pure (wpAny_pure ⟨rfl, h₄⟩)) fun _ _ h' => h')) fun _ _ h' => h'))) fun _ _ h' => h')
theorem start_n1 (h0 : codeAny (model prog w) A (.compLoop (twoComp elt iter0 iter1 x0 x1 p0 p1 scope pos) 1 it acc env) R s)
    (h : wpAny (model prog w) A (pyIter it) (fun it' s' => codeAny (model prog w) A (.compLoop (twoComp elt iter0 iter1 x0 x1 p0 p1 scope pos) 1 it' acc env) R s')
      (notedBy (model prog w) A env fun x s' => R (.error x) s') s) :
    codeAny (model prog w) A (.compStart (twoComp elt iter0 iter1 x0 x1 p0 p1 scope pos) 1 it acc env) R s := by
  refine codeAny_of_tree ?_
  show wpAny _ _ ((compStart (twoComp elt iter0 iter1 x0 x1 p0 p1 scope pos) 1 it acc env).onRaise (fun x => do noteFrame x env; standAt theWindowsPlace)) _ _ s
  refine wpAny_notedAt ?_
  unfold compStart
  show wpAny _ _ (ask >>= _) _ _ s
  refine wpAny_bind (wpAny_askSetting (wpAny_ite ?_))
  split
  · first
      | exact wpAny_bind (wpAny_pure (wpAny_pure (And.intro rfl h0)))
      | exact wpAny_pure (And.intro rfl h0)
  · first
      | exact wpAny_bind (wpAny_rule (wpAny_bind (wpAny_standAt (wpAny_bind (wpAny_mono h (fun it' s' h' => wpAny_pure (And.intro rfl h')) fun _ _ x => x)))))
      | (refine wpAny_bind (wpAny_rule ?_); show wpAny _ _ (standAt iter1.pos >>= _) _ _ s; exact wpAny_bind (wpAny_standAt (wpAny_bind (wpAny_mono h (fun it' s' h' => wpAny_pure (And.intro rfl h')) fun _ _ x => x))))
theorem loop_n0 (hs : ∀ x, foldedSetIterable iter1 env x = pure x) (h : wpAny (model prog w) A (pyNext it) (fun r s₁ => match r with
      | none => R (.ok .next) s₁
      | some v => wpAny (model prog w) A (assign (.Name x0 p0) env v) (fun _ s₂ => wpAny (model prog w) A (eval iter1 env) (fun x s₃ => wpAny (model prog w) A (pyIter x) (fun it' s₄ =>
          codeAny (model prog w) A (.compStart (twoComp elt iter0 iter1 x0 x1 p0 p1 scope pos) 1 it' acc env) (fun r s₅ => match r with
            | .ok _ => codeAny (model prog w) A (.compLoop (twoComp elt iter0 iter1 x0 x1 p0 p1 scope pos) 0 it acc env) R s₅
            | .error e => cameBackBy (model prog w) A env (notedBy (model prog w) A env fun e s' => R (.error e) s') e s₅) s₄)
          (notedBy (model prog w) A env fun e s' => R (.error e) s') s₃)
          (notedBy (model prog w) A env fun e s' => R (.error e) s') s₂) (notedBy (model prog w) A env fun e s' => R (.error e) s') s₁) (notedBy (model prog w) A env fun e s' => R (.error e) s') s) :
    codeAny (model prog w) A (.compLoop (twoComp elt iter0 iter1 x0 x1 p0 p1 scope pos) 0 it acc env) R s := by
  refine codeAny_of_tree ?_
  show wpAny _ A ((compTurn (twoComp elt iter0 iter1 x0 x1 p0 p1 scope pos) 0 it acc env).onRaise (fun x => do noteFrame x env; theTreesLotGoes x)) _ _ s
  refine wpAny_noted ?_
  rw [compTurn_n0]
  refine wpAny_bind (wpAny_standAt (wpAny_bind (wpAny_mono h (fun r s₁ h₁ => ?_) fun _ _ h' => h')))
  cases r with
  | none => exact wpAny_pure h₁
  | some v =>
    refine wpAny_bind (wpAny_of_eq (a := ()) (show letOwnedTupleGo (.Name x0 p0) it v = pure () from rfl) ?_)
    refine wpAny_bind (wpAny_mono h₁ (fun _ s₂ h₂ => wpAny_bind (wpAny_mono h₂ (fun x s₃ h₃ => wpAny_bind (wpAny_standAt (wpAny_bind (wpAny_of_eq (hs x) (wpAny_bind (wpAny_holding (wpAny_mono h₃ (fun it' s₄ h₄ => ?_) fun _ _ h' => h')))))))
      fun _ _ h' => h')) fun _ _ h' => h')
    refine wpAny_bind (wpAny_runOwn (codeAny_mono h₄ fun r s₅ h₅ => ?_))
    cases r with
    | ok f => exact wpAny_pure ⟨rfl, h₅⟩
    | error e => exact h₅
end

theorem fr_ne {h₀ h h' : Heap} {L a : Addr} {m : Str → Option Value} (F : Fr h₀ L h m) (hk : ∀ b o, b ≠ a → h.get? b = some o → h'.get? b = some o) (hL : L ≠ a) (ha : h₀.get? a = none) : Fr h₀ L h' m :=
  ⟨F.ns.at' fun o e => hk L o hL e, fun b o e => hk b o (fun z => by rw [z, ha] at e; cases e) (F.keep b o e), F.above⟩
theorem news_ne {h₀ h h' : Heap} {L a : Addr} {news : List (Addr × Obj)} (N : News h₀ L h news) (hk : ∀ b o, b ≠ a → h.get? b = some o → h'.get? b = some o) (off : ∀ p ∈ news, p.1 ≠ a) : News h₀ L h' news :=
  fun p hp => ⟨hk _ _ (off p hp) (N p hp).1, (N p hp).2⟩
section
variable {prog : Program} {w : World} {A : Around} {E : Value → Shared → Prop} {R : Result → Shared → Prop} {s : Shared} {iter0 iter1 : Expr} {x0 x1 : Str} {p0 p1 pe : Pos} {scope : Scope} {pos : Pos} {env : Env} {cl : List (Str × Addr)} {I I1 l1 lv C D : Addr} {its : Array Value} {j : Nat}
theorem inner_end (hh : A.handled = none) {env : Env} (hit : s.heap.IsListIter I1 l1 j) (hl : s.heap.IsList l1 its) (hx : its[j]? = none)
    (k : ∀ h', (∀ b o, b ≠ I1 → s.heap.get? b = some o → h'.get? b = some o) → R (.ok .next) { s with heap := h' }) :
    codeAny (model prog w) A (.compLoop (twoComp (.Name x1 pe) iter0 iter1 x0 x1 p0 p1 scope pos) 1 (.ref I1) (.ref D) env) R s :=
  loop_n1 (wpAny_pyNext_list_end hh hit hl hx fun h' he => k h' fun b o hb e => he b o hb e)
theorem inner_step (hkind : scope.kind = .function) (hx1 : scope.names.lookup x1 = some .local) (hd : (x1 == ("__debug__" : Str)) = false) {m' : Str → Option Value} {ys : List Value} {v : Value} (hit : s.heap.IsListIter I1 l1 j) (hl : s.heap.IsList l1 its) (hx : its[j]? = some v)
    (hn : s.heap.Ns C m') (hD : s.heap.get? D = some (LCg.lst ys)) (hIC : I1 ≠ C) (hID : I1 ≠ D) (hCD : C ≠ D) (hsz : ys.length ≤ sizeLine)
    (k : ∀ h' tk m'', h'.IsListIter I1 l1 (j + 1) → h'.Ns C m'' → h'.get? D = some (LCg.lst (ys ++ [v])) → (∀ b o, b ≠ I1 → b ≠ C → b ≠ D → s.heap.get? b = some o → h'.get? b = some o) →
      codeAny (model prog w) A (.compLoop (twoComp (.Name x1 pe) iter0 iter1 x0 x1 p0 p1 scope pos) 1 (.ref I1) (.ref D) (compEnvC scope cl C env)) R { s with heap := h', toks := tk }) :
    codeAny (model prog w) A (.compLoop (twoComp (.Name x1 pe) iter0 iter1 x0 x1 p0 p1 scope pos) 1 (.ref I1) (.ref D) (compEnvC scope cl C env)) R s := by
  refine loop_n1 (wpAny_pyNext_list_item hit hl hx fun h1 hit1 hs1 => ?_)
  have k1 : ∀ b o, b ≠ I1 → s.heap.get? b = some o → h1.get? b = some o := fun b o hb e => (hs1.2 b hb).trans e
  refine wpAny_assign_Name (wpAny_storeName_local (lookup_relabel_local hx1) (hn.at' fun o e => k1 C o (Ne.symm hIC) e) (fun h2 hn2 hs2 => ?_) (by simp [compEnvC, relabel, hkind]))
  have k2 : ∀ b o, b ≠ C → h1.get? b = some o → h2.get? b = some o := fun b o hb e => (hs2.2 b hb).trans e
  refine wpAny_Name (wpAny_loadName_local (by simpa [compEnvC, relabel] using hkind) (lookup_relabel_local hx1) hn2 (v := v) (if_pos rfl) ?_) hd
  have hD2 : h2.get? D = some (LCg.lst ys) := k2 D _ (Ne.symm hCD) (k1 D _ (Ne.symm hID) hD)
  refine append_at (hsz := by show ys.toArray.size ≤ sizeLine; rw [List.size_toArray]; exact hsz) hD2 fun h3 hs3 hD3 => ?_
  have k3 : ∀ b o, b ≠ D → h2.get? b = some o → h3.get? b = some o := fun b o hb e => (hs3.2 b hb).trans e
  refine k h3 _ _ ?_ (hn2.at' fun o e => k3 C o hCD e) (hD3.trans (congrArg some (LCg.lst_snoc ys v))) fun b o h1' h2' h3' e => k3 b o h3' (k2 b o h2' (k1 b o h1' e))
  obtain ⟨o, ho, r⟩ := hit1
  exact ⟨o, k3 I1 o hID (k2 I1 o hIC ho), r⟩
/-- the inner loop over a list of at most one item -/
theorem inner_all (hh : A.handled = none) (hkind : scope.kind = .function) (hx1 : scope.names.lookup x1 = some .local) (hd : (x1 == ("__debug__" : Str)) = false) {m' : Str → Option Value} (hit : s.heap.IsListIter I1 l1 0) (hl : s.heap.IsList l1 its) (h1 : its.size ≤ 1)
    (hn : s.heap.Ns C m') (hD : s.heap.get? D = some (LCg.lst [])) (hIC : I1 ≠ C) (hID : I1 ≠ D) (hCD : C ≠ D) (hlI : l1 ≠ I1) (hlC : l1 ≠ C) (hlD : l1 ≠ D)
    (k : ∀ h' tk m'', h'.Ns C m'' → h'.get? D = some (LCg.lst its.toList) → (∀ b o, b ≠ I1 → b ≠ C → b ≠ D → s.heap.get? b = some o → h'.get? b = some o) → R (.ok .next) { s with heap := h', toks := tk }) :
    codeAny (model prog w) A (.compLoop (twoComp (.Name x1 pe) iter0 iter1 x0 x1 p0 p1 scope pos) 1 (.ref I1) (.ref D) (compEnvC scope cl C env)) R s := by
  rcases its with ⟨l⟩
  cases l with
  | nil =>
    exact inner_end hh hit hl rfl fun h' kk => k h' s.toks m' (hn.at' fun o e => kk C o (Ne.symm hIC) e) (kk D _ (Ne.symm hID) hD) fun b o b1 _ _ e => kk b o b1 e
  | cons v l =>
    cases l with
    | cons _ _ => simp at h1
    | nil =>
      refine inner_step (v := v) (ys := []) hkind hx1 hd hit hl rfl hn hD hIC hID hCD (Nat.zero_le _) fun h' tk m'' hit' hn' hD' kk => ?_
      have hl' : h'.IsList l1 #[v] := by obtain ⟨o, ho, r⟩ := hl; exact ⟨o, kk l1 o hlI hlC hlD ho, r⟩
      refine inner_end (its := #[v]) hh hit' hl' rfl fun h2 k2 => ?_
      exact k h2 tk m'' (hn'.at' fun o e => k2 C o (Ne.symm hIC) e) (k2 D _ (Ne.symm hID) hD') fun b o b1 b2 b3 e => k2 b o b1 (kk b o b1 b2 b3 e)
end

theorem off1_of {D : Addr} : ∀ {l : List (Addr × Obj)}, (∀ p ∈ l, p.1 ≠ D) → LCg.Off1 D l
  | [], _ => trivial
  | _ :: _, h => ⟨h _ (.head _), off1_of fun p hp => h p (.tail _ hp)⟩
section
variable {prog : Program} {w : World} {A : Around} {E : Value → Shared → Prop} {iter0 iter1 : Expr} {x0 x1 : Str} {p0 p1 pe : Pos} {scope : Scope} {pos : Pos} {env : Env} {cl : List (Str × Addr)} {I lv : Addr} {its : Array Value}
/-- the block of a comprehension with two clauses whose first source is a list of one item -/
theorem block_N {s₂ : Shared} {h₀ : Heap} {L : Addr} {m : Str → Option Value} {news : List (Addr × Obj)} {v0 : Value} {RR : Value → Addr → Result → Shared → Prop}
    (hh : A.handled = none) (hcell : ∀ y ∈ scope.names, y.2 ≠ .cell) (hkind : scope.kind = .function) (hx0 : scope.names.lookup x0 = some .local) (hx1 : scope.names.lookup x1 = some .local) (hd : (x1 == ("__debug__" : Str)) = false)
    (hs : ∀ C x, foldedSetIterable iter1 (compEnvC scope cl C env) x = pure x)
    (hit : s₂.heap.IsListIter I lv 0) (F : Fr h₀ L s₂.heap m) (N : News h₀ L s₂.heap news) (hlv : ∃ c, (lv, listOf #[v0] c) ∈ news) (hIL : L ≠ I) (hI₀ : h₀.get? I = none) (off : ∀ p ∈ news, p.1 ≠ I) (h1 : its.size ≤ 1)
    (step : ∀ oI C oC D m₂ h tk (E' : Value → Shared → Prop), LCg.NsObj oC m₂ → m₂ x0 = some v0 → Fr h₀ L h m → News h₀ L h ((I, oI) :: (C, oC) :: (D, LCg.lst []) :: news) → LCg.Off3 I C D news → ((@Ne Nat I C) ∧ (@Ne Nat I D) ∧ (@Ne Nat C D)) →
      wpAny (model prog w) A (eval iter1 (compEnvC scope cl C env)) (fun xv s' => ∃ l1 c1 h' tk', xv = .ref l1 ∧ s' = { s₂ with heap := h', toks := tk' } ∧ Fr h₀ L h' m ∧ News h₀ L h' ((l1, listOf its c1) :: (I, oI) :: (C, oC) :: (D, LCg.lst []) :: news) ∧
        AllNe l1 ((I, oI) :: (C, oC) :: (D, LCg.lst []) :: news)) E' { s₂ with heap := h, toks := tk })
    (hRR : ∀ D C h tk m', Fr h₀ L h m → News h₀ L h ((D, LCg.lst its.toList) :: news) → LCg.Off1 D news → h.Ns C m' → h₀.get? C = none → h₀.get? D = none → C ≠ L → D ≠ L → C ≠ D → (∀ p ∈ news, p.1 ≠ C) → RR (.ref D) C (.ok .next) { s₂ with heap := h, toks := tk }) :
    wpAny (model prog w) A (newList []) (fun acc s₃ => wpAny (model prog w) A (newFunctionEnv scope env.globals cl [] env.qual none .none (some env)) (fun cenv s₄ =>
      codeAny (model prog w) A (.compStart (twoComp (.Name x1 pe) iter0 iter1 x0 x1 p0 p1 scope pos) 0 (.ref I) acc { cenv with scope := relabel scope env }) (RR acc cenv.locals) s₄) E s₃) E s₂ := by
  refine wpAny_newObj_type (wpAny_newFunctionEnv hcell (by intro y hy; simp at hy) (fun h₁ hns₁ hsb₁ => ?_) hkind)
  dsimp only at hns₁ hsb₁ ⊢
  generalize hH2 : s₂.heap.push { cls := .type "list", dict := none, data := .seq ([] : List Value).toArray } = H2 at hns₁ hsb₁ ⊢
  have hIlt : I < s₂.heap.objs.size := by obtain ⟨o, e, _⟩ := hit; exact Heap.lt_size e
  have hLlt : L < s₂.heap.objs.size := F.ns.lt
  have hCs : H2.objs.size = s₂.heap.objs.size + 1 := by rw [← hH2, Heap.size_push]
  have fresh₀ : ∀ a, s₂.heap.objs.size ≤ a → h₀.get? a = none := fun a ha => by
    cases e : h₀.get? a with
    | none => rfl
    | some o => exact absurd (Heap.lt_size (F.keep a o e)) (Nat.not_lt.mpr ha)
  generalize hDe : s₂.heap.objs.size = D at hIlt hLlt hCs fresh₀ ⊢
  generalize hCe : H2.objs.size = C at hns₁ hsb₁ hCs ⊢
  have hD₀ : h₀.get? D = none := fresh₀ D (Nat.le_refl _)
  have hC₀ : h₀.get? C = none := fresh₀ C (by rw [hCs]; exact Nat.le_succ _)
  have hDC : C ≠ D := by rw [hCs]; exact Nat.succ_ne_self D
  have lowD : ∀ b, b < D → b ≠ D := fun b hb => Nat.ne_of_lt hb
  have lowC : ∀ b, b < D → b ≠ C := fun b hb => by rw [hCs]; exact Nat.ne_of_lt (Nat.lt_succ_of_lt hb)
  have old : ∀ b o, s₂.heap.get? b = some o → h₁.get? b = some o := fun b o e => by
    have hb : b < D := hDe ▸ Heap.lt_size e
    exact hsb₁.extBut b o (lowC b hb) (Heap.get?_push_of_some _ (hH2 ▸ Heap.get?_push_of_some _ e))
  have hD1 : h₁.get? D = some (LCg.lst []) := hsb₁.extBut _ _ (Ne.symm hDC) (Heap.get?_push_of_some _ (by rw [← hH2, ← hDe]; exact Heap.get?_push_size _ rfl))
  have hI1 : h₁.IsListIter I lv 0 := by obtain ⟨o, e, r⟩ := hit; exact ⟨o, old _ _ e, r⟩
  have F₁ : Fr h₀ L h₁ m := F.keeps old
  have N₁ : News h₀ L h₁ news := N.grown old
  obtain ⟨c, hlv⟩ := hlv
  have offD : ∀ p ∈ news, p.1 ≠ D := fun p hp => lowD _ (hDe ▸ Heap.lt_size (N p hp).1)
  have offC : ∀ p ∈ news, p.1 ≠ C := fun p hp => lowC _ (hDe ▸ Heap.lt_size (N p hp).1)
  have hID : I ≠ D := lowD I hIlt
  have hIC : I ≠ C := lowC I hIlt
  have off3 : LCg.Off3 I C D news := LCg.Off3.of fun p hp => ⟨off p hp, offC p hp, offD p hp⟩
  have loop : ∀ s₃ : Shared, s₃ = { s₂ with heap := h₁, toks := s₂.toks + ([] : List (Str × Value)).length } →
      codeAny (model prog w) A (.compLoop (twoComp (.Name x1 pe) iter0 iter1 x0 x1 p0 p1 scope pos) 0 (.ref I) (.ref D) (compEnvC scope cl C env)) (RR (.ref D) C) s₃ := by
    rintro s₃ rfl
    refine loop_n0 (hs C) (wpAny_pyNext_list_item hI1 (lst_of (N₁ _ hlv).1) (x := v0) rfl fun h2 hit2 hs2 => ?_)
    have k2 : ∀ b o, b ≠ I → h₁.get? b = some o → h2.get? b = some o := fun b o hb e => (hs2.2 b hb).trans e
    refine wpAny_assign_Name (wpAny_storeName_local (lookup_relabel_local hx0) (hns₁.at' fun o e => k2 C o (Ne.symm hIC) e) (fun h3 hn3 hs3 => ?_) (by simp [compEnvC, relabel, hkind]))
    have k3 : ∀ b o, b ≠ C → h2.get? b = some o → h3.get? b = some o := fun b o hb e => (hs3.2 b hb).trans e
    obtain ⟨oI, heI, hcI, hdI⟩ := hit2
    obtain ⟨oC, heC, hoC⟩ := LCg.ns_obj hn3
    have F₃ : Fr h₀ L h3 m := fr_ne (fr_ne F₁ k2 hIL hI₀) k3 (lowC L hLlt) hC₀
    have N₃ : News h₀ L h3 ((I, oI) :: (C, oC) :: (D, LCg.lst []) :: news) := List.forall_mem_cons.mpr ⟨⟨k3 I oI hIC heI, Ne.symm hIL, hI₀⟩, List.forall_mem_cons.mpr ⟨⟨heC, Ne.symm (lowC L hLlt), hC₀⟩,
      List.forall_mem_cons.mpr ⟨⟨k3 D _ (Ne.symm hDC) (k2 D _ (Ne.symm hID) hD1), Ne.symm (lowD L hLlt), hD₀⟩, news_ne (news_ne N₁ k2 off) k3 offC⟩⟩⟩
    refine wpAny_mono (step oI C oC D _ h3 _ _ hoC (if_pos rfl) F₃ N₃ off3 ⟨hIC, hID, hDC⟩) (fun xv s4 h4' => ?_) fun _ _ e => e
    obtain ⟨l1, c1, h4, tk4, rfl, rfl, F₄, N₄, ne₄⟩ := h4'
    have ne4 := allNe_all ne₄
    have g1 := (N₄ (l1, listOf its c1) (.head _)).1
    have gI := (N₄ (I, oI) (.tail _ (.head _))).1
    have gC := (N₄ (C, oC) (.tail _ (.tail _ (.head _)))).1
    have gD := (N₄ (D, LCg.lst []) (.tail _ (.tail _ (.tail _ (.head _))))).1
    have N₄' : News h₀ L h4 news := fun p hp => N₄ p (.tail _ (.tail _ (.tail _ (.tail _ hp))))
    refine wpAny_pyIter_list (lst_of g1) ?_
    have hI1₀ : h₀.get? h4.objs.size = none := next_is_new F₄
    have hltL : L < h4.objs.size := F₄.ns.lt
    have hlt1 : l1 < h4.objs.size := Heap.lt_size g1
    have hltI : I < h4.objs.size := Heap.lt_size gI
    have hltC : C < h4.objs.size := Heap.lt_size gC
    have hltD : D < h4.objs.size := Heap.lt_size gD
    have hltN : ∀ p ∈ news, p.1 < h4.objs.size := fun p hp => Heap.lt_size (N₄' p hp).1
    have up : ∀ b o, h4.get? b = some o → (h4.push { cls := .type "list_iterator", data := .fields #[.ref l1, .int 0 0] }).get? b = some o := fun b o e => Heap.get?_push_of_some _ e
    have hit5 : (h4.push { cls := .type "list_iterator", data := .fields #[.ref l1, .int 0 0] }).IsListIter h4.objs.size l1 0 := ⟨_, Heap.get?_push_size _ rfl, rfl, rfl⟩
    generalize h4.push { cls := .type "list_iterator", data := .fields #[.ref l1, .int 0 0] } = h5 at up hit5 ⊢
    generalize h4.objs.size = I1 at hI1₀ hltL hlt1 hltI hltC hltD hltN hit5 ⊢
    have inner : ∀ s5 : Shared, s5.heap = h5 → s5 = { s₂ with heap := h5, toks := tk4 } → codeAny (model prog w) A (.compLoop (twoComp (.Name x1 pe) iter0 iter1 x0 x1 p0 p1 scope pos) 1 (.ref I1) (.ref D) (compEnvC scope cl C env)) (fun r s₅ => match r with
            | .ok _ => codeAny (model prog w) A (.compLoop (twoComp (.Name x1 pe) iter0 iter1 x0 x1 p0 p1 scope pos) 0 (.ref I) (.ref D) (compEnvC scope cl C env)) (RR (.ref D) C) s₅
            | .error e => cameBackBy (model prog w) A (compEnvC scope cl C env) (notedBy (model prog w) A (compEnvC scope cl C env) fun e s' => RR (.ref D) C (.error e) s') e s₅) s5 := by
      rintro s5 - rfl
      refine inner_all hh hkind hx1 hd hit5 (lst_of (up _ _ g1)) h1 (hoC.ns (up _ _ gC)) (up _ _ gD) (Ne.symm (Nat.ne_of_lt hltC)) (Ne.symm (Nat.ne_of_lt hltD)) hDC (Nat.ne_of_lt hlt1) (Ne.symm (ne4 (C, oC) (.tail _ (.head _)))) (Ne.symm (ne4 (D, LCg.lst []) (.tail _ (.tail _ (.head _))))) fun h6 tk6 m6 hn6 hD6 k6 => ?_
      have hit6 : h6.IsListIter I lv 1 := ⟨oI, k6 I oI (Nat.ne_of_lt hltI) hIC hID (up _ _ gI), hcI, hdI⟩
      have hl6 : h6.IsList lv #[v0] := lst_of (k6 lv _ (Nat.ne_of_lt (hltN _ hlv)) (offC _ hlv) (offD _ hlv) (up _ _ (N₄' _ hlv).1))
      refine loop_n0 (hs C) (wpAny_pyNext_list_end hh hit6 hl6 rfl fun h7 he7 => ?_)
      have K : ∀ b o, b ≠ I → b ≠ I1 → b ≠ C → b ≠ D → h4.get? b = some o → h7.get? b = some o := fun b o b1 b2 b3 b4 e => he7 b o b1 (k6 b o b2 b3 b4 (up _ _ e))
      refine hRR D C h7 _ m6 ⟨F₄.ns.at' fun o e => K L o hIL (Nat.ne_of_lt hltL) (lowC L hLlt) (lowD L hLlt) e, fun b o e => K b o (fun z => by rw [z, hI₀] at e; cases e) (fun z => by rw [z, hI1₀] at e; cases e) (fun z => by rw [z, hC₀] at e; cases e) (fun z => by rw [z, hD₀] at e; cases e) (F₄.keep b o e), F₄.above⟩
        (List.forall_mem_cons.mpr ⟨⟨he7 D _ (Ne.symm hID) hD6, Ne.symm (lowD L hLlt), hD₀⟩, fun p hp => ⟨K _ _ (off p hp) (Nat.ne_of_lt (hltN p hp)) (offC p hp) (offD p hp) (N₄' p hp).1, (N₄' p hp).2⟩⟩)
        (off1_of offD) (hn6.at' fun o e => he7 C o (Ne.symm hIC) e) hC₀ hD₀ (Ne.symm (lowC L hLlt)) (Ne.symm (lowD L hLlt)) hDC offC
    exact start_n1 (inner _ rfl rfl) (wpAny_pyIter_listiter hit5 (inner _ rfl rfl))
  exact codeAny_compStart_list (loop _ rfl) (wpAny_pyIter_listiter hI1 (loop _ rfl))
end

section
variable {prog : Program} {w : World} {A : Around} {E : Value → Shared → Prop} {s : Shared} {h₀ : Heap} {L : Addr} {m : Str → Option Value} {env : Env} {iter0 iter1 : Expr} {x0 x1 y : Str} {p0 p1 pe py : Pos} {scope : Scope} {cl : List (Str × Addr)} {pos spos : Pos}
/-- y = [x1 for x0 in iter0 for x1 in iter1], iter0 a list of one item, iter1 a list of at most one -/
theorem assign_two {Q : Flow → Shared → Prop} {v0 : Value} {its : Array Value} (_F₀ : Fr h₀ L s.heap m) (hLe : env.locals = L)
    (hsw : swapsWith (twoComp (.Name x1 pe) iter0 iter1 x0 x1 p0 p1 scope pos) (some (.Name y py)) spos.line env = pure true)
    (hclos : closureFor scope env = pure cl) (hcell : ∀ z ∈ scope.names, z.2 ≠ .cell) (hkind : scope.kind = .function)
    (hnames : ∀ z ∈ scope.names, z.2 = .local → scope.names.lookup z.1 = some .local) (hx0 : scope.names.lookup x0 = some .local) (hx1 : scope.names.lookup x1 = some .local) (hd : (x1 == ("__debug__" : Str)) = false)
    (hy : env.kindOf y = some .local) (hp : (env.scope.kind == .class || (env.scope.kind == .module && env.locals != env.globals)) = false) (h1 : its.size ≤ 1)
    (hs : ∀ x, foldedSetIterable iter0 env x = pure x) (hs1 : ∀ C x, foldedSetIterable iter1 (compEnvC scope cl C env) x = pure x)
    (h : wpAny (model prog w) A (eval iter0 env) (fun xv s₁ => ∃ lv c news, xv = .ref lv ∧ A.handled = none ∧ Fr h₀ L s₁.heap m ∧ News h₀ L s₁.heap news ∧ (lv, listOf #[v0] c) ∈ news ∧
      (∀ I oI C oC D m₂ h tk (E' : Value → Shared → Prop), LCg.NsObj oC m₂ → m₂ x0 = some v0 → Fr h₀ L h m → News h₀ L h ((I, oI) :: (C, oC) :: (D, LCg.lst []) :: news) → LCg.Off3 I C D news → ((@Ne Nat I C) ∧ (@Ne Nat I D) ∧ (@Ne Nat C D)) →
        wpAny (model prog w) A (eval iter1 (compEnvC scope cl C env)) (fun xv s' => ∃ l1 c1 h' tk', xv = .ref l1 ∧ s' = { s₁ with heap := h', toks := tk' } ∧ Fr h₀ L h' m ∧ News h₀ L h' ((l1, listOf its c1) :: (I, oI) :: (C, oC) :: (D, LCg.lst []) :: news) ∧
          AllNe l1 ((I, oI) :: (C, oC) :: (D, LCg.lst []) :: news)) E' { s₁ with heap := h, toks := tk }) ∧
      (∀ D h tk, Fr h₀ L h (fun z => if z = y then some (.ref D) else m z) → News h₀ L h ((D, LCg.lst its.toList) :: news) → LCg.Off1 D news → Q .next { s₁ with heap := h, toks := tk })) E s) :
    wpAny (model prog w) A (exec (.Assign [.Name y py] (twoComp (.Name x1 pe) iter0 iter1 x0 x1 p0 p1 scope pos) spos) env) Q E s := by
  subst hLe
  rw [exec_Assign_Name_used _ _ _ _ hsw]
  refine wpAny_bind (wpAny_standAt (wpAny_bind ?_))
  show wpAny _ A (do let _ ← comprehension (twoComp (.Name x1 pe) iter0 iter1 x0 x1 p0 p1 scope pos) scope env _ (newList []) false (eval iter0 env) (some (assign (.Name y py) env))) _ _ s
  refine wpAny_bind (wpAny_mono (wpAny_comprehension_free (use := some (assign (.Name y py) env)) (Q := fun _ s' => Q .next s') rfl hs hclos hkind hnames
    (wpAny_mono h (fun xv s₁ h₁ => ?_) fun _ _ e => e)) (fun _ s' hq => wpAny_pure (wpAny_pure hq)) fun _ _ e => e)
  obtain ⟨lv, c, news, rfl, hh, F, N, hlv, step, fin⟩ := h₁
  refine wpAny_pyIter_list (lst_of (N _ hlv).1) ?_
  have up : ∀ b o, s₁.heap.get? b = some o → (s₁.heap.push { cls := .type "list_iterator", data := .fields #[.ref lv, .int 0 0] }).get? b = some o := fun b o e => Heap.get?_push_of_some _ e
  refine block_N (lv := lv) (its := its) hh hcell hkind hx0 hx1 hd hs1 ⟨_, Heap.get?_push_size _ rfl, rfl, rfl⟩ (F.keeps up) (N.grown up) ⟨c, hlv⟩ (Nat.ne_of_lt F.ns.lt) (next_is_new F) (fun p hp => Nat.ne_of_lt (Heap.lt_size (N p hp).1)) h1
    (fun oI C oC D m₂ h tk E' a b F' N' o3 ne => step _ oI C oC D m₂ h tk E' a b F' N' o3 ne) ?_
  intro D C h' tk m' F' N' o1 hn hC₀ hD₀ hCL hDL hCD offC
  show wpAny _ A (assign (.Name y py) env (.ref D)) _ _ _
  refine wpAny_assign_Name (wpAny_storeName_local hy F'.ns (fun h₂ hn₂ hs₂ => ?_) hp)
  have k2 : ∀ b o, b ≠ env.locals → h'.get? b = some o → h₂.get? b = some o := fun b o hb e => (hs₂.2 b hb).trans e
  have hL₀ : h₀.get? env.locals = none := Heap.get?_none_of_le F'.above
  have F₂ : Fr h₀ env.locals h₂ (fun z => if z = y then some (.ref D) else m z) := ⟨hn₂, fun b o e => k2 b o (fun q => by rw [q, hL₀] at e; cases e) (F'.keep b o e), F'.above⟩
  refine ⟨m', hn.sameBut hs₂ hCL, fun h'' hs'' => fin D h'' _ (F₂.change hs'' hCL hC₀) (fun p hp => ?_) o1⟩
  refine ⟨(hs''.2 _ ?_).trans (k2 _ _ (N' p hp).2.1 (N' p hp).1), (N' p hp).2⟩
  rcases List.mem_cons.mp hp with rfl | hp
  · exact Ne.symm hCD
  · exact offC p hp
end

-- part LvHeight

theorem fault_use2 {w : World} {mean : ExcName → Option Value} {mg mb : Str → Option Value} {C : Addr} {dp un : Nat} (Z : FaultCall w mean mg mb 540 5400 C)
    {gd : Option (List Code)} {cn : Str} {cs : Scope} {a : Addr} {ccd : Value} {cl : List (Str × Addr)} {outer : List Env} {A₀ : Around} {base h₀ : Heap} {L : Addr} {m : Str → Option Value} {s : Shared}
    {Q E : Value → Shared → Prop} {ln : Int} {lt : Tok} {tx : Str} {tk : Tok} {led : List (Addr × Obj)}
    (B : Below A₀ base outer h₀) (F : Fr h₀ L s.heap m) (X : (hd.heap_1 w.params).In h₀) (T : Top hd.view_1 (looseW hd.view_1 [Str.ofString "is_sign"]) mean mg mb h₀) (hk : cs.kind = .function) (N : News h₀ L s.heap led) (hd : dp ≤ 540) (hu : un ≤ 5400)
    (ret : ∀ h' tk' e d t2, Fr h₀ L h' m → News h₀ L h' ((e, excObj C (some d) t2) :: (t2, tupObj [.str tx tk]) :: led) → Q (.ref e) { s with heap := h', toks := tk' }) :
    wpAny (model PySem.Challenge.rw_xw0005_01.row.prog w) (ktrTop dp un gd cn cs L a ccd cl outer) (call (.ref C) [.int ln lt, .str tx tk]) Q E s :=
  fault_use Z B F X T hk N hd hu fun h' tk' e d t2 F' E' N' => ret h' tk' e d t2 F' (List.forall_mem_cons.mpr ⟨E' _ (.head _), List.forall_mem_cons.mpr ⟨E' _ (.tail _ (.head _)), N'⟩⟩)
local macro_rules | `(tactic| walk_at "call ref") => `(tactic| (k_here; (with_reducible show wpAny _ _ (call (Value.ref 51) _) _ _ _); k_dflt (refine' fault_use2 ?kZ ?k1 ?k2 ?k3 ?k5 ?kK ?k4 ?kd ?ku ?_; (case kZ => assumption); (case k1 | k2 => k_asm); (case k3 | k4 | k5 => k_asm); (case kK => exact rfl); (case kd | ku => exact Nat.le_of_ble_eq_true rfl); k_whole; intro h' tk' e' d' t2' F' N'; (try dsimp only); (try k_sweep))))

def RefuseHere (w : World) (mean : ExcName → Option Value) (mg mb : Str → Option Value) (D U : Nat) : Prop :=
  ∀ (gd : Option (List Code)) (cn : Str) (cs : Scope) (a : Addr) (ccd : Value) (cl : List (Str × Addr)) (outer : List Env) (A₀ : Around) (base h₀ : Heap) (L : Addr) (m : Str → Option Value) (s : Shared)
    (Q E : Value → Shared → Prop),
    Below A₀ base outer h₀ → Fr h₀ L s.heap m → (hd.heap_1 w.params).In h₀ →  Top hd.view_1 (looseW hd.view_1 [Str.ofString "is_sign"]) mean mg mb h₀ → cs.kind = .function →
    ∀ (r dr tl tok : Addr) (es : List DictEntry) (n c : Nat) (items : Array Value) (i : Int) (k v : Str) (t1 t2 t3 : Tok) (tx : Str) (tk : Tok), News h₀ L s.heap [(r, instObj 135 dr), (dr, dictOf es n), (tl, listOf items c), (tok, tupObj [.str k t1, .str v t2, .int 1 t3])] → RdEs es tl i → 0 ≤ i → items.size ≤ 200 → items[i.toNat]? = some (.ref tok) →
    (∀ h' tk' e d t, Fr h₀ L h' m → News h₀ L h' [(e, excObj 51 (some d) t), (t, tupObj [.str tx tk])] → s.heap.StaysIn h' → Q (.ref e) { s with heap := h', toks := tk' }) →
    wpAny (model PySem.Challenge.rw_xw0005_01.row.prog w) (ktrTop D U gd cn cs L a ccd cl outer) (call (.ref 174) [.ref r, .str tx tk]) Q E s
set_option maxHeartbeats 40000000 in
theorem refuse_here (w : World) (mean : ExcName → Option Value) (mg mb : Str → Option Value) : RefuseHere w mean mg mb 520 5200 := by
  have Z := call_syntax w mean mg mb
  unfold RefuseHere
  k_fill
  w_top off
  intro gd cn cs a ccd cl outer A₀ base h₀ L m s Q E B F X T hk r dr tl tok es n c items i k v t1 t2 t3 tx tk N R hi0 hsz hit hret
  refine wpAny_call ?_
  k_dflt ktr_enter
  k_steps
  rename Fr _ _ _ _ => FZ
  rename News _ _ _ _ => NZ
  rename (_ = hideAll _ _) => hg
  rename (Heap.StaysIn _ _) => st
  exact hret _ _ _ _ _ FZ (List.forall_mem_cons.mpr ⟨NZ _ (.head _), List.forall_mem_cons.mpr ⟨NZ _ (.tail _ (.head _)), fun _ h => nomatch h⟩⟩) (stays_hidden hg (fun p hp => (N p hp).1) st fun p hp => (NZ p (.tail _ (.tail _ hp))).1)

structure TreeCh (P : Addr → Obj → Prop) (n : Nat) (T : Nat → Addr) (wd : Nat → Str) : Prop where
  foot : ∃ t1 t2, P (T 0) (tupObj [.str (Str.ofString "name") t1, .str (Str.ofString "g") t2])
  link : ∀ k, k < n → ∃ t1 t2, P (T (k + 1)) (tupObj [.str (Str.ofString "select") t1, .ref (T k), .str (wd k) t2])
theorem TreeCh.mono {P P' : Addr → Obj → Prop} {n : Nat} {T : Nat → Addr} {wd : Nat → Str} (k : ∀ a o, P a o → P' a o) (c : TreeCh P n T wd) : TreeCh P' n T wd :=
  ⟨let ⟨t1, t2, h⟩ := c.foot; ⟨t1, t2, k _ _ h⟩, fun i hi => let ⟨t1, t2, h⟩ := c.link i hi; ⟨t1, t2, k _ _ h⟩⟩
theorem TreeCh.tup {P : Addr → Obj → Prop} {n : Nat} {T : Nat → Addr} {wd : Nat → Str} (c : TreeCh P n T wd) : ∀ k, k ≤ n → ∃ vs, P (T k) (tupObj vs)
  | 0, _ => let ⟨_, _, h⟩ := c.foot; ⟨_, h⟩
  | k + 1, hk => let ⟨_, _, h⟩ := c.link k hk; ⟨_, h⟩
def partsOf (T : Nat → Addr) : Nat → Array Value
  | 0 => #[]
  | k + 1 => #[.ref (T k)]
theorem partsOf_size (T : Nat → Addr) : ∀ k, (partsOf T k).size ≤ 1
  | 0 => Nat.zero_le _
  | _ + 1 => Nat.le_refl _
/-- what stands of a reader in a ledger: it looks at the token (k, v) at the place i -/
def RdAt (nx : List (Addr × Obj)) (r : Addr) (i : Int) (k v : Str) : Prop :=
  ∃ dr tl tok es n items c t1 t2 t3, (r, instObj 135 dr) ∈ nx ∧ (dr, dictOf es n) ∈ nx ∧ (tl, listOf items c) ∈ nx ∧ (tok, tupObj [.str k t1, .str v t2, .int 1 t3]) ∈ nx ∧ RdEs es tl i ∧ 0 ≤ i ∧ items.size ≤ 200 ∧ items[i.toNat]? = some (.ref tok)
section
variable {w : World} {mean : ExcName → Option Value} {mg mb : Str → Option Value} {dp un : Nat} {gd : Option (List Code)} {cn : Str} {cs : Scope} {a : Addr} {ccd : Value} {cl : List (Str × Addr)} {outer : List Env} {A₀ : Around} {base h₀ : Heap} {L : Addr} {m : Str → Option Value} {news : List (Addr × Obj)} {s : Shared} {Q E : Value → Shared → Prop}
/-- tree_parts of the node j of a tree -/
theorem parts_tree {n j : Nat} {T : Nat → Addr} {wd : Nat → Str} (C : TreeCh (MadeIn news) n T wd) (hj : j ≤ n)
    (B : Below A₀ base outer h₀) (F : Fr h₀ L s.heap m) (X : (hd.heap_1 w.params).In h₀) (N : News h₀ L s.heap news) (Tp : Top hd.view_1 (looseW hd.view_1 [Str.ofString "is_sign"]) mean mg mb h₀)
    (hk : cs.kind = .function) (hd : dp ≤ 500) (hu : un ≤ 5000)
    (ret : ∀ l c h' tk', Fr h₀ L h' m → News h₀ L h' ((l, listOf (partsOf T j) c) :: news) → AllNe l news → Q (.ref l) { s with heap := h', toks := tk' }) :
    wpAny (model PySem.Challenge.rw_xw0005_01.row.prog w) (ktrTop dp un gd cn cs L a ccd cl outer) (call (.ref 203) [.ref (T j)]) Q E s := by
  cases j with
  | zero =>
    obtain ⟨t1, t2, h⟩ := C.foot
    exact doesL_use (tree_foot w mean mg mb (T 0) t1 t2) B F X N Tp hk hd hu (List.forall_mem_cons.mpr ⟨h, fun _ h => nomatch h⟩) ret
  | succ k =>
    obtain ⟨t1, t2, h⟩ := C.link k hj
    obtain ⟨vs, h2⟩ := C.tup k (Nat.le_of_succ_le hj)
    exact doesL_use (tree_link w mean mg mb (T (k + 1)) (T k) t1 t2 (wd k) vs) B F X N Tp hk hd hu (List.forall_mem_cons.mpr ⟨h, List.forall_mem_cons.mpr ⟨h2, fun _ h => nomatch h⟩⟩) ret
end
set_option hygiene false
local macro_rules | `(tactic| ktr_enter) => `(tactic| (refine' code_defW ?k1 ?k2 ?k3 ?k4 ?k5 ?kA ?kF ?kK ?k6 ?k7 ?k8 ?k9 ?kB ?_ ?c2 ?c3 ?c4 ?c5; (case kA | kF => exact rfl); (case kK => assumption); (case k1 | k2 => k_asm); (case k3 | k4 | k5 => k_asm); (case k6 | k7 => k_is); (case k8 => k_room); (case k9 => exact BindsTo.of_eq rfl); (case c5 => decide); (case kB => exact locs rfl); (case c2 | c3 | c4 => exact rfl); k_whole; intro g' L' h' hg' F' N' B' X' T'; (try dsimp only); (try k_fold)))
set_option hygiene true
local macro_rules | `(tactic| k_steps) => `(tactic| repeat' ((fail_if_success (with_reducible first | show wpAny _ _ (exec (Stmt.For _ _ _ _ _) _) _ _ _ | show wpAny _ _ (pyIter _) _ _ _ | show wpAny _ _ (compareOp _ (Value.ref _) (Value.ref _)) _ _ _ | show wpAny _ _ (call (Value.ref 203) _) _ _ _ | show wpAny _ _ (call (Value.ref 174) _) _ _ _ | show wpAny _ _ (exec (Stmt.Assign _ (Expr.ListComp _ _ _ _) _) _) _ _ _)); first | (k_unfold; (try dsimp only)) | walk1 | (dsimp only; walk1) | (leave1; walk_say "STEP leave1"; try dsimp only) | fail "no step"))

def JH (T : Nat → Addr) (n : Nat) (r : Addr) (nx : List (Addr × Obj)) (i : Nat) (m' : Str → Option Value) (nx' : List (Addr × Obj)) : Prop :=
  ∃ lv c, m' (Str.ofString "level") = some (.ref lv) ∧ m' (Str.ofString "reader") = some (.ref r) ∧ nx' = (lv, listOf #[.ref (T (n - i))] c) :: nx ∧ i ≤ n
def CheckHeight (w : World) (mean : ExcName → Option Value) (mg mb : Str → Option Value) (D U : Nat) : Prop :=
  ∀ (gd : Option (List Code)) (cn : Str) (cs : Scope) (a : Addr) (ccd : Value) (cl : List (Str × Addr)) (outer : List Env) (A₀ : Around) (base h₀ : Heap) (L : Addr) (m : Str → Option Value) (s : Shared)
    (Q E : Value → Shared → Prop),
    Below A₀ base outer h₀ → Fr h₀ L s.heap m → (hd.heap_1 w.params).In h₀ →  Top hd.view_1 (looseW hd.view_1 [Str.ofString "is_sign"]) mean mg mb h₀ → cs.kind = .function →
    ∀ (r : Addr) (i : Int) (k v : Str) (nx : List (Addr × Obj)) (n : Nat) (T : Nat → Addr) (wd : Nat → Str), News h₀ L s.heap nx → RdAt nx r i k v → TreeCh (MadeIn nx) n T wd →
    (n ≤ 59 → ∀ h' tk', Fr h₀ L h' m → News h₀ L h' nx → Q .none { s with heap := h', toks := tk' }) → (59 < n → Throws base h₀ outer L m cn cs a ccd 51 s E) →
    wpAny (model PySem.Challenge.rw_xw0005_01.row.prog w) (ktrTop D U gd cn cs L a ccd cl outer) (call (.ref 208) [.ref r, .ref (T n)]) Q E s
set_option maxHeartbeats 40000000 in
theorem check_height (w : World) (mean : ExcName → Option Value) (mg mb : Str → Option Value) : CheckHeight w mean mg mb 480 4800 := by
  have Z2 := fault_syntax w
  unfold CheckHeight
  k_fill
  w_top off
  intro gd cn cs a ccd cl outer A₀ base h₀ L m s Q E B F X Tp hk r i k v nx n T wd N hrd C hret hthr
  refine wpAny_call ?_
  k_dflt ktr_enter
  k_steps
  rename Fr _ _ _ _ => FA
  rename News _ _ _ _ => NA
  refine' For_invVF FA ?k1 ?k2 ?k3 ?k4 ?k5
  (case k1 => exact rfl)
  (case k2 => exact rfl)
  (case k4 => intro _; rfl)
  (case k5 => passes_own)
  k_steps
  rename Fr _ _ _ _ => FA
  rename News _ _ _ _ => NA
  rename IsRange _ _ _ _ _ _ _ _ => RA
  refine loop_range (n := 60) (JH T n r nx) rfl RA rfl rfl FA NA ?hj ?turn ?done
  (case hj => exact ⟨_, _, rfl, rfl, rfl, Nat.zero_le _⟩)
  (case done =>
    rintro m₁ nx₁ h₁ tk₁ ⟨lv, c, e1, e2, rfl, e4⟩ F₁ N₁
    have F₂ : Fr g' L' h₁ _ := fr_two F₁ e1 e2
    have N₂ : News g' L' h₁ _ := N₁
    clear F₁ N₁ FA NA RA
    k_steps
    obtain ⟨dr, tl, tok, es, n2, items, c2, t1, t2, t3, q1, q2, q3, q4, R, hi0, hsz, hit⟩ := hrd
    refine wpAny_room (d := 520) (u := 5200) ?rd ?ru (refuse_here w mean mg mb _ _ _ _ _ _ _ _ base g' L' _ _ _ _ B' F₂ X' T' rfl r dr tl tok es n2 c2 items i k v t1 t2 t3 _ _
      (List.forall_mem_cons.mpr ⟨N₂ _ (.tail _ q1), List.forall_mem_cons.mpr ⟨N₂ _ (.tail _ q2), List.forall_mem_cons.mpr ⟨N₂ _ (.tail _ q3), List.forall_mem_cons.mpr ⟨N₂ _ (.tail _ q4), fun _ h => nomatch h⟩⟩⟩⟩) R hi0 hsz hit ?rt)
    (case rd => exact Nat.le_of_ble_eq_true rfl)
    (case ru => exact Nat.le_of_ble_eq_true rfl)
    intro h2 tk2 e d t FE NE _
    refine ⟨e, t, d, _, rfl, FE, X', NE, Z2, ?_⟩
    k_steps
    rename RaisedS _ _ _ _ _ _ _ _ _ => R9
    rename Heap.UpToSlots g' _ => U9
    exact hthr (by omega) _ _ _ _ _ _ (hg' ▸ fr_hide F N) R9 U9)
  rintro I i2 ti m₁ nx₁ h₁ tk₁ oI hi ⟨lv, c, e1, e2, rfl, e4⟩ off F₁ N₁
  clear FA NA RA
  have F₂ : Fr g' L' h₁ _ := fr_known2 F₁ e1 e2
  have N₂ : News g' L' h₁ _ := N₁
  clear F₁ N₁
  k_steps
  rename Fr _ _ _ _ => F3
  rename News _ _ _ _ => N3
  refine assign_two (v0 := .ref (T (n - i2))) (its := partsOf T (n - i2)) F3 (by rfl) (by with_unfolding_all rfl) (by with_unfolding_all rfl) (by decide) (by rfl) (by decide) (by rfl) (by rfl) (by decide) (by rfl) (by rfl) (partsOf_size T _) (by intro _; rfl) (by intro _ _; rfl) ?_
  walk1
  refine ⟨lv, c, _, rfl, rfl, F3, N3, .tail _ (.head _), ?step, ?fin⟩
  (case step =>
    intro CI oCI CC oCC CD m₄ h₄ tk₄ E₄ hNs hone F9 N9 off9 ne9
    k_steps
    rename Fr _ _ _ _ => FS
    rename News _ _ _ _ => NS
    refine parts_tree (j := n - i2) (C.mono fun a o h => .tail _ (.tail _ (.tail _ (.tail _ (.tail _ h))))) (by omega) B' FS X' NS T' rfl ?pd ?pu ?_
    (case pd => exact Nat.le_of_ble_eq_true rfl)
    (case pu => exact Nat.le_of_ble_eq_true rfl)
    intro l c3 h6 tk6 F6 N6 a6
    exact ⟨l, c3, h6, tk6, rfl, rfl, F6, N6, a6⟩)
  intro D5 h5 tk5 F9 N9 off9
  have off5 := off1_all off9
  clear F3 N3
  dsimp only
  rcases hz : n - i2 with _ | k2
  · rw [hz] at N9
    have N10 : News g' L' h5 ((D5, listOf #[] 0) :: (I, oI) :: (lv, listOf #[.ref (T 0)] c) :: nx) := N9
    clear N9
    k_steps
    rename Fr _ _ _ _ => F11
    rename News _ _ _ _ => N11
    rename Addr => lE
    refine eq_emptyB true (lst_of (N11 (D5, listOf #[] 0) (.tail _ (.head _))).1) (lst_of (N11 (lE, _) (.head _)).1) rfl ?eu ?_
    (case eu => exact Nat.le_of_ble_eq_true rfl)
    k_steps
    dsimp only [LedPost]
    k_steps
    rename Fr _ _ _ _ => FZ
    rename News _ _ _ _ => NZ
    exact hret (by omega) _ _ FZ (fun p hp => NZ p (.tail _ (.tail _ (.tail _ (.tail _ hp)))))
  · rw [hz] at N9
    have N10 : News g' L' h5 ((D5, listOf #[.ref (T k2)] 1) :: (I, oI) :: (lv, listOf #[.ref (T (k2 + 1))] c) :: nx) := N9
    clear N9
    k_steps
    rename Fr _ _ _ _ => F11
    rename News _ _ _ _ => N11
    rename Addr => lE
    refine eq_emptyB false (lst_of (N11 (D5, listOf #[.ref (T k2)] 1) (.tail _ (.head _))).1) (lst_of (N11 (lE, _) (.head _)).1) rfl ?eu ?_
    (case eu => exact Nat.le_of_ble_eq_true rfl)
    k_steps
    have hk2 : n - (i2 + 1) = k2 := by omega
    refine ⟨_, _, _, _, (D5, listOf #[.ref (T k2)] 1) :: nx, rfl, F11, N11, ?n1, ?n2, ?n3, D5, 1, ?n4, ?n5, ?n6, by omega⟩
    (case n1 => exact List.forall_mem_cons.mpr ⟨.tail _ (.head _), fun p hp => .tail _ (.tail _ (.tail _ (.tail _ hp)))⟩)
    (case n2 =>
      intro p hp
      rw [List.mem_singleton.mp hp]
      exact .tail _ (.tail _ (.head _)))
    (case n3 => exact List.forall_mem_cons.mpr ⟨Ne.symm (off5 (I, oI) (.head _)), fun p hp => off p (.tail _ hp)⟩)
    (case n4 => exact rfl)
    (case n5 => exact rfl)
    (case n6 => rw [hk2])

-- part LvPath
local macro_rules | `(tactic| k_steps) => `(tactic| repeat' ((fail_if_success (with_reducible show wpAny _ _ (call (Value.ref 208) _) _ _ _)); first | (k_unfold; (try dsimp only)) | walk1 | (dsimp only; walk1) | (leave1; walk_say "STEP leave1"; try dsimp only) | fail "no step"))

def BoundedTree (w : World) (mean : ExcName → Option Value) (mg mb : Str → Option Value) (D U : Nat) : Prop :=
  ∀ (gd : Option (List Code)) (cn : Str) (cs : Scope) (a : Addr) (ccd : Value) (cl : List (Str × Addr)) (outer : List Env) (A₀ : Around) (base h₀ : Heap) (L : Addr) (m : Str → Option Value) (s : Shared)
    (Q E : Value → Shared → Prop),
    Below A₀ base outer h₀ → Fr h₀ L s.heap m → (hd.heap_1 w.params).In h₀ →  Top hd.view_1 (looseW hd.view_1 [Str.ofString "is_sign"]) mean mg mb h₀ → cs.kind = .function →
    ∀ (r dr : Addr) (es : List DictEntry) (nn : Nat) (i : Int) (k v : Str) (nx : List (Addr × Obj)) (n : Nat) (T : Nat → Addr) (wd : Nat → Str), News h₀ L s.heap ((r, instObj 135 dr) :: (dr, dictOf es nn) :: nx) → (∃ u, getL (Str.ofString "nest") es = some (some (.int 0 u))) →
    RdAt ((r, instObj 135 dr) :: (dr, dictOf es nn) :: nx) r i k v → TreeCh (MadeIn nx) n T wd →
    (n ≤ 59 → ∀ h' tk', Fr h₀ L h' m → News h₀ L h' ((r, instObj 135 dr) :: (dr, dictOf es nn) :: nx) → Q (.ref (T n)) { s with heap := h', toks := tk' }) → (59 < n → Throws base h₀ outer L m cn cs a ccd 51 s E) →
    wpAny (model PySem.Challenge.rw_xw0005_01.row.prog w) (ktrTop D U gd cn cs L a ccd cl outer) (call (.ref 215) [.ref r, .ref (T n)]) Q E s
set_option maxHeartbeats 40000000 in
theorem bounded_tree (w : World) (mean : ExcName → Option Value) (mg mb : Str → Option Value) : BoundedTree w mean mg mb 460 4600 := by
  unfold BoundedTree
  k_fill
  w_top off
  intro gd cn cs a ccd cl outer A₀ base h₀ L m s Q E B F X Tp hk r dr es nn i k v nx n T wd N hnest hrd C hret hthr
  obtain ⟨un, hun⟩ := hnest
  refine wpAny_call ?_
  k_dflt ktr_enter
  k_steps
  rename Fr _ _ _ _ => FA
  rename News _ _ _ _ => NA
  refine wpAny_room (d := 480) (u := 4800) ?rd ?ru (check_height w mean mg mb _ _ _ _ _ _ _ _ base g' L' _ _ _ _ B' FA X' T' rfl r i k v _ n T wd NA hrd (C.mono fun a o h => .tail _ (.tail _ h)) ?ok ?thr)
  (case rd => exact Nat.le_of_ble_eq_true rfl)
  (case ru => exact Nat.le_of_ble_eq_true rfl)
  (case ok =>
    intro hle h2 tk2 F2 N2
    clear FA NA
    k_steps
    rename Fr _ _ _ _ => FZ
    rename News _ _ _ _ => NZ
    exact hret hle _ _ FZ NZ)
  (case thr =>
    intro hlt g₂ e t vs h2 tk2 FR RR UR
    k_steps
    rename RaisedS _ _ _ _ _ _ _ _ _ => R9
    rename Heap.UpToSlots g' _ => U9
    exact hthr hlt _ _ _ _ _ _ (hg' ▸ fr_hide F N) R9 U9)
structure Toks (P : Addr → Obj → Prop) (items : Array Value) (n : Nat) (wd : Nat → Str) : Prop where
  name0 : ∃ x, items[0]? = some (.ref x) ∧ TokOn P x (Str.ofString "name") (Str.ofString "g")
  dot : ∀ k, k < n → ∃ x, items[2 * k + 1]? = some (.ref x) ∧ TokOn P x (Str.ofString "op") (Str.ofString ".")
  nm : ∀ k, k < n → ∃ x, items[2 * k + 2]? = some (.ref x) ∧ TokOn P x (Str.ofString "name") (wd k)
  fin : ∃ x, items[2 * n + 1]? = some (.ref x) ∧ TokOn P x (Str.ofString "op") (Str.ofString ";")
theorem Toks.mono {P P' : Addr → Obj → Prop} {items : Array Value} {n : Nat} {wd : Nat → Str} (k : ∀ a o, P a o → P' a o) (c : Toks P items n wd) : Toks P' items n wd :=
  ⟨let ⟨x, a, b⟩ := c.name0; ⟨x, a, b.mono k⟩, fun i hi => let ⟨x, a, b⟩ := c.dot i hi; ⟨x, a, b.mono k⟩, fun i hi => let ⟨x, a, b⟩ := c.nm i hi; ⟨x, a, b.mono k⟩, let ⟨x, a, b⟩ := c.fin; ⟨x, a, b.mono k⟩⟩
theorem news_rot {h₀ h : Heap} {L : Addr} {a b c : Addr × Obj} {r : List (Addr × Obj)} (N : News h₀ L h (a :: b :: c :: r)) : News h₀ L h (b :: c :: a :: r) := fun p hp => N p (by
  rcases List.mem_cons.mp hp with rfl | hp
  · exact .tail _ (.head _)
  rcases List.mem_cons.mp hp with rfl | hp
  · exact .tail _ (.tail _ (.head _))
  rcases List.mem_cons.mp hp with rfl | hp
  · exact .head _
  exact .tail _ (.tail _ (.tail _ hp)))
theorem TreeCh.snoc {P : Addr → Obj → Prop} {i : Nat} {T : Nat → Addr} {wd : Nat → Str} {x : Addr} {t1 t2 : Tok} (c : TreeCh P i T wd) (K : P x (tupObj [.str (Str.ofString "select") t1, .ref (T i), .str (wd i) t2])) : TreeCh P (i + 1) (fun j => if j = i + 1 then x else T j) wd where
  foot := by rw [if_neg (by omega)]; exact c.foot
  link := fun k hk => by
    by_cases h : k = i
    · subst h
      rw [if_pos rfl, if_neg (by omega)]
      exact ⟨t1, t2, K⟩
    · rw [if_neg (by omega), if_neg (by omega)]
      exact c.link k (by omega)
section
variable {w : World} {mean : ExcName → Option Value} {mg mb : Str → Option Value} {D U dp un : Nat} {gd : Option (List Code)} {cn : Str} {cs : Scope} {a : Addr} {ccd : Value} {cl : List (Str × Addr)} {outer : List Env} {A₀ : Around} {base h₀ : Heap} {L : Addr} {m : Str → Option Value} {s : Shared} {Q E : Value → Shared → Prop}
variable {f r dr tl tok : Addr} {more : List Value} {k v : Str} {res : Value → Prop} {es : List DictEntry} {nn c : Nat} {items : Array Value} {i : Int} {all : List (Addr × Obj)}
theorem moves_use (M : Moves w mean mg mb D U f r more k v res) (B : Below A₀ base outer h₀) (F : Fr h₀ L s.heap m) (X : (hd.heap_1 w.params).In h₀) (N : News h₀ L s.heap ((r, instObj 135 dr) :: (dr, dictOf es nn) :: all)) (Tp : Top hd.view_1 (looseW hd.view_1 [Str.ofString "is_sign"]) mean mg mb h₀)
    (hk : cs.kind = .function) (hd : dp ≤ D) (hu : un ≤ U) (htl : (tl, listOf items c) ∈ all) (htok : TokOn (MadeIn all) tok k v) (R : RdEs es tl i) (hi : 0 ≤ i) (hz : items.size ≤ 200) (hit : items[i.toNat]? = some (.ref tok)) (offr : r ≠ dr) (off : ∀ p ∈ all, p.1 ≠ dr)
    (ret : ∀ x h' tk' es' nn', res x → Fr h₀ L h' m → News h₀ L h' ((r, instObj 135 dr) :: (dr, dictOf es' nn') :: all) → RdEs es' tl (i + 1) → Q x { s with heap := h', toks := tk' }) :
    wpAny (model PySem.Challenge.rw_xw0005_01.row.prog w) (ktrTop dp un gd cn cs L a ccd cl outer) (call (.ref f) (.ref r :: more)) Q E s := by
  obtain ⟨t1, t2, t3, ht⟩ := htok
  refine wpAny_room (d := D) (u := U) hd hu (M gd cn cs a ccd cl outer A₀ base h₀ L m s Q E B F X Tp hk dr tl tok es nn c items i t1 t2 t3
    (List.forall_mem_cons.mpr ⟨N _ (.head _), List.forall_mem_cons.mpr ⟨N _ (.tail _ (.head _)), List.forall_mem_cons.mpr ⟨N _ (.tail _ (.tail _ htl)), List.forall_mem_cons.mpr ⟨N _ (.tail _ (.tail _ ht)), fun _ h => nomatch h⟩⟩⟩⟩) R hi hz hit fun x h' tk' es' nn' hx F' hg R' kk => ?_)
  refine ret x h' tk' es' nn' hx F' (List.forall_mem_cons.mpr ⟨⟨kk _ _ offr (N _ (.head _)).1, (N _ (.head _)).2⟩, List.forall_mem_cons.mpr ⟨⟨hg, (N _ (.tail _ (.head _))).2⟩, fun p hp => ⟨kk _ _ (off p hp) (N p (.tail _ (.tail _ hp))).1, (N p (.tail _ (.tail _ hp))).2⟩⟩⟩) R'
theorem looks_use (M : Looks0 w mean mg mb D U f r more k v) (B : Below A₀ base outer h₀) (F : Fr h₀ L s.heap m) (X : (hd.heap_1 w.params).In h₀) (N : News h₀ L s.heap ((r, instObj 135 dr) :: (dr, dictOf es nn) :: all)) (Tp : Top hd.view_1 (looseW hd.view_1 [Str.ofString "is_sign"]) mean mg mb h₀)
    (hk : cs.kind = .function) (hd : dp ≤ D) (hu : un ≤ U) (htl : (tl, listOf items c) ∈ all) (htok : TokOn (MadeIn all) tok k v) (R : RdEs es tl i) (hi : 0 ≤ i) (hz : items.size ≤ 200) (hit : items[i.toNat]? = some (.ref tok))
    (ret : ∀ h' tk', Fr h₀ L h' m → News h₀ L h' ((r, instObj 135 dr) :: (dr, dictOf es nn) :: all) → Q (.bool false) { s with heap := h', toks := tk' }) :
    wpAny (model PySem.Challenge.rw_xw0005_01.row.prog w) (ktrTop dp un gd cn cs L a ccd cl outer) (call (.ref f) (.ref r :: more)) Q E s := by
  obtain ⟨t1, t2, t3, ht⟩ := htok
  exact wpAny_room (d := D) (u := U) hd hu (M gd cn cs a ccd cl outer A₀ base h₀ L m s Q E B F X Tp hk dr tl tok es nn c items i t1 t2 t3
    (List.forall_mem_cons.mpr ⟨N _ (.head _), List.forall_mem_cons.mpr ⟨N _ (.tail _ (.head _)), List.forall_mem_cons.mpr ⟨N _ (.tail _ (.tail _ htl)), List.forall_mem_cons.mpr ⟨N _ (.tail _ (.tail _ ht)), fun _ h => nomatch h⟩⟩⟩⟩) R hi hz hit fun h' tk' F' st => ret h' tk' F' fun p hp => ⟨st _ _ (N p hp).1, (N p hp).2⟩)
end
local macro_rules | `(tactic| k_steps) => `(tactic| repeat' ((fail_if_success (with_reducible first | show wpAny _ _ (call (Value.ref 189) _) _ _ _ | show wpAny _ _ (call (Value.ref 196) _) _ _ _ | show wpAny _ _ (call (Value.ref 215) _) _ _ _ | show wpAny _ _ (exec (Stmt.While _ _ _ _) _) _ _ _)); first | (k_unfold; (try dsimp only)) | walk1 | (dsimp only; walk1) | (leave1; walk_say "STEP leave1"; try dsimp only) | fail "no step"))

def JP (r dr tl : Addr) (nx : List (Addr × Obj)) (n : Nat) (wd : Nat → Str) (j : Nat) (m' : Str → Option Value) (nx' : List (Addr × Obj)) : Prop :=
  ∃ k T es' nn' all, j = n - k ∧ k ≤ n ∧ m' (Str.ofString "tree") = some (.ref (T k)) ∧ m' (Str.ofString "reader") = some (.ref r) ∧ nx' = (r, instObj 135 dr) :: (dr, dictOf es' nn') :: all ∧ RdEs es' tl (2 * (k : Int) + 1) ∧ (∀ p ∈ nx, p ∈ all) ∧ TreeCh (MadeIn all) k T wd ∧ ∀ p ∈ all, p.1 ≠ dr
def ParsePath (w : World) (mean : ExcName → Option Value) (mg mb : Str → Option Value) (D U : Nat) : Prop :=
  ∀ (gd : Option (List Code)) (cn : Str) (cs : Scope) (a : Addr) (ccd : Value) (cl : List (Str × Addr)) (outer : List Env) (A₀ : Around) (base h₀ : Heap) (L : Addr) (m : Str → Option Value) (s : Shared)
    (Q E : Value → Shared → Prop),
    Below A₀ base outer h₀ → Fr h₀ L s.heap m → (hd.heap_1 w.params).In h₀ →  Top hd.view_1 (looseW hd.view_1 [Str.ofString "is_sign"]) mean mg mb h₀ → cs.kind = .function →
    ∀ (r dr tl : Addr) (es : List DictEntry) (nn c : Nat) (items : Array Value) (nx : List (Addr × Obj)) (n : Nat) (wd : Nat → Str), News h₀ L s.heap ((r, instObj 135 dr) :: (dr, dictOf es nn) :: nx) → RdEs es tl 0 → items.size ≤ 200 → (tl, listOf items c) ∈ nx → Toks (MadeIn nx) items n wd →
    r ≠ dr → (∀ p ∈ nx, p.1 ≠ dr) →
    (n ≤ 59 → ∀ h' tk' es' nn' all T, Fr h₀ L h' m → News h₀ L h' ((r, instObj 135 dr) :: (dr, dictOf es' nn') :: all) → (∀ p ∈ nx, p ∈ all) → RdEs es' tl (2 * (n : Int) + 1) → TreeCh (MadeIn all) n T wd → Q (.ref (T n)) { s with heap := h', toks := tk' }) →
    (59 < n → Throws base h₀ outer L m cn cs a ccd 51 s E) →
    wpAny (model PySem.Challenge.rw_xw0005_01.row.prog w) (ktrTop D U gd cn cs L a ccd cl outer) (call (.ref 222) [.ref r]) Q E s
set_option maxHeartbeats 40000000 in
theorem parse_path (w : World) (mean : ExcName → Option Value) (mg mb : Str → Option Value) : ParsePath w mean mg mb 440 4400 := by
  unfold ParsePath
  k_fill
  w_top off
  intro gd cn cs a ccd cl outer A₀ base h₀ L m s Q E B F X Tp hk r dr tl es nn c items nx n wd N R hsz htl C offr off hret hthr
  refine wpAny_call ?_
  k_dflt ktr_enter
  k_steps
  rename Fr _ _ _ _ => FA
  rename News _ _ _ _ => NA
  obtain ⟨x0, hx0, hk0⟩ := C.name0
  refine moves_use (need_name w mean mg mb r (Str.ofString "g")) B' FA X' NA T' rfl ?d0 ?u0 htl hk0 R (Int.le_refl 0) hsz hx0 offr off ?_
  (case d0 => exact Nat.le_of_ble_eq_true rfl)
  (case u0 => exact Nat.le_of_ble_eq_true rfl)
  rintro v0 h1 tk1 es1 nn1 ⟨tv, rfl⟩ F1 N1 R1
  clear FA NA
  k_steps
  rename Fr _ _ _ _ => F2
  rename News _ _ _ _ => N2
  rename (_ ∧ _) => l2
  refine While_inv (JP r dr tl nx n wd) (n₀ := n) F2 (news_rot N2) ?wj ?turn
  (case wj => exact ⟨0, fun _ => _, es1, nn1, _, rfl, Nat.zero_le _, rfl, rfl, rfl, R1, fun p hp => .tail _ hp, ⟨⟨_, _, .head _⟩, fun k h => absurd h (Nat.not_lt_zero k)⟩, List.forall_mem_cons.mpr ⟨Ne.symm (Nat.ne_of_lt l2.2.1), off⟩⟩)
  rintro j m₁ nx₁ h₁ tk₁ F3 N3 ⟨k, T, es2, nn2, all, rfl, hkn, e1, e2, rfl, R2, sub, C2, off2⟩
  clear F2 N2
  have F4 : Fr g' L' h₁ _ := fr_two F3 e1 e2
  have N4 : News g' L' h₁ _ := N3
  clear F3 N3
  by_cases hlt : k < n
  · obtain ⟨x1, hx1, hk1⟩ := C.dot k hlt
    obtain ⟨x2, hx2, hk2⟩ := C.nm k hlt
    k_steps
    rename Fr _ _ _ _ => F5
    rename News _ _ _ _ => N5
    refine moves_use (take_dot w mean mg mb r _) B' F5 X' N5 T' rfl ?d1 ?u1 (sub _ htl) (hk1.mono fun a o h => sub _ h) R2 (by omega) hsz (by rw [show (2 * (k : Int) + 1).toNat = 2 * k + 1 by omega]; exact hx1) offr off2 ?_
    (case d1 => exact Nat.le_of_ble_eq_true rfl)
    (case u1 => exact Nat.le_of_ble_eq_true rfl)
    rintro v3 h3 tk3 es3 nn3 rfl F6 N6 R3
    clear F5 N5
    k_steps
    rename Fr _ _ _ _ => F7
    rename News _ _ _ _ => N7
    refine moves_use (need_name w mean mg mb r (wd k)) B' F7 X' N7 T' rfl ?d2 ?u2 (sub _ htl) (hk2.mono fun a o h => sub _ h) R3 (by omega) hsz (by rw [show (2 * (k : Int) + 1 + 1).toNat = 2 * k + 2 by omega]; exact hx2) offr off2 ?_
    (case d2 => exact Nat.le_of_ble_eq_true rfl)
    (case u2 => exact Nat.le_of_ble_eq_true rfl)
    rintro v4 h4 tk4 es4 nn4 ⟨tw, rfl⟩ F8 N8 R4
    clear F7 N7
    k_steps
    rename Fr _ _ _ _ => F9
    rename News _ _ _ _ => N9
    rename (_ ∧ _) => l9
    refine WhileStep.intro (n' := n - (k + 1)) (fr_over F9) (news_rot N9) (by omega) ⟨k + 1, fun j => if j = k + 1 then _ else T j, es4, nn4, _, rfl, by omega, congrArg (fun z => some (Value.ref z)) (if_pos rfl).symm, rfl, rfl, ?hr, fun p hp => .tail _ (sub p hp), TreeCh.snoc (C2.mono fun a o h => .tail _ h) (.head _), List.forall_mem_cons.mpr ⟨Ne.symm (Nat.ne_of_lt l9.2.1), off2⟩⟩
    (case hr => exact (show 2 * (k : Int) + 1 + 1 + 1 = 2 * ((k + 1 : Nat) : Int) + 1 by omega) ▸ R4)
  · have hkn2 : k = n := by omega
    subst hkn2
    obtain ⟨x1, hx1, hk1⟩ := C.fin
    k_steps
    rename Fr _ _ _ _ => F5
    rename News _ _ _ _ => N5
    refine looks_use (take_end w mean mg mb r _) B' F5 X' N5 T' rfl ?d1 ?u1 (sub _ htl) (hk1.mono fun a o h => sub _ h) R2 (by omega) hsz (by rw [show (2 * (k : Int) + 1).toNat = 2 * k + 1 by omega]; exact hx1) ?_
    (case d1 => exact Nat.le_of_ble_eq_true rfl)
    (case u1 => exact Nat.le_of_ble_eq_true rfl)
    intro h3 tk3 F6 N6
    clear F5 N5
    k_steps
    obtain ⟨t1, t2, t3, ht⟩ := hk1
    refine wpAny_room (d := 460) (u := 4600) ?rd ?ru (bounded_tree w mean mg mb _ _ _ _ _ _ _ _ base g' L' _ _ _ _ B' F6 X' T' rfl r dr es2 nn2 (2 * (k : Int) + 1) (Str.ofString "op") (Str.ofString ";") all k T wd N6 R2.nest
      ⟨dr, tl, x1, es2, nn2, items, c, t1, t2, t3, .head _, .tail _ (.head _), .tail _ (.tail _ (sub _ htl)), .tail _ (.tail _ (sub _ ht)), R2, by omega, hsz, by rw [show (2 * (k : Int) + 1).toNat = 2 * k + 1 by omega]; exact hx1⟩ C2 ?ok ?thr)
    (case rd => exact Nat.le_of_ble_eq_true rfl)
    (case ru => exact Nat.le_of_ble_eq_true rfl)
    (case ok =>
      intro hle h4 tk4 F8 N8
      clear F6 N6
      dsimp only
      k_steps
      rename Fr _ _ _ _ => FZ
      rename News _ _ _ _ => NZ
      exact hret hle _ _ _ _ _ _ FZ NZ sub R2 C2)
    (case thr =>
      intro h60 g₂ e t vs h4 tk4 FR RR UR
      dsimp only
      k_steps
      rename RaisedS _ _ _ _ _ _ _ _ _ => R9
      rename Heap.UpToSlots g' _ => U9
      exact hthr h60 _ _ _ _ _ _ (hg' ▸ fr_hide F N) R9 U9)

-- part LvEq
theorem tuple_of {h : Heap} {a : Addr} {vs : List Value} (e : h.get? a = some (tupObj vs)) : h.IsTuple a vs.toArray := ⟨_, e, rfl, 0, rfl⟩
theorem str_eqAt {A : Around} {s : Shared} {x : Str} {t u : Tok} : PySem.SeqAt.EqAt A s (.str x t) (.str x u) true := fun prog w E Q h => by
  have z := (PySem.strKind prog w).eqBool (A := A) (E := E) (s := s) (a := x) (b := x) (u := .str x t) (v := .str x u) (Q := Q) (by simp [PySem.strKind, Value.isStrOf]) (by simp [PySem.strKind, Value.isStrOf])
  exact z (by simpa using h)
/-- two trees that say the same are equal -/
theorem tree_eq {s : Shared} {n : Nat} {T1 T2 : Nat → Addr} {wd : Nat → Str} (C1 : TreeCh (GetsIn s.heap) n T1 wd) (C2 : TreeCh (GetsIn s.heap) n T2 wd) : ∀ (k : Nat) (A : Around), k ≤ n → A.units + k < cLine → PySem.SeqAt.RcAt A s (.ref (T1 k)) (.ref (T2 k)) true := by
  intro k
  induction k with
  | zero =>
    intro A _ hu
    obtain ⟨t1, t2, h1⟩ := C1.foot
    obtain ⟨u1, u2, h2⟩ := C2.foot
    exact PySem.SeqAt.RcAt.tuples (e := fun _ => true) (tuple_of h1) (tuple_of h2) (by omega) fun j j1 j2 => by
      match j, j1 with
      | 0, _ => exact str_eqAt
      | 1, _ => exact str_eqAt
  | succ k ih =>
    intro A hk hu
    obtain ⟨t1, t2, h1⟩ := C1.link k hk
    obtain ⟨u1, u2, h2⟩ := C2.link k hk
    exact PySem.SeqAt.RcAt.tuples (e := fun _ => true) (tuple_of h1) (tuple_of h2) (by omega) fun j j1 j2 => by
      match j, j1 with
      | 0, _ => exact str_eqAt
      | 1, _ =>
        show PySem.SeqAt.EqAt A.in1 s (.ref (T1 k)) (.ref (T2 k)) true
        by_cases e : T1 k = T2 k
        · rw [e]
          exact PySem.SeqAt.EqAt.same _
        · exact PySem.SeqAt.EqAt.of_refs e (ih A.in1 (by omega) (by rw [units_in1]; omega))
      | 2, _ => exact str_eqAt
theorem allLt_ne {d : Addr} : ∀ {l : List (Addr × Obj)}, AllLt d l → ∀ p ∈ l, p.1 ≠ d
  | [], _, _, hp => nomatch hp
  | q :: r, h, p, hp => by
    rcases List.mem_cons.mp hp with rfl | hp
    · exact Nat.ne_of_lt h.1
    · exact allLt_ne h.2 p hp

-- part LvRight2
set_option hygiene false
local macro_rules | `(tactic| ktr_enter) => `(tactic| (refine' code_defS0 ?k1 ?k2 ?k3 ?k4 ?k5 ?kA ?k6 ?k7 ?k8 ?k9 ?kB ?_ ?kK ?c2 ?c3 ?c4 ?c5; (case kA => exact rfl); (case kK | k1 => assumption); (case k2 | k3 => assumption); (case k4 | k5 => assumption); (case k6 | k7 => k_is); (case k8 => k_room); (case k9 => exact BindsTo.of_eq rfl); (case c5 => decide); (case kB => exact locs rfl); (case c2 | c3 | c4 => exact rfl); k_whole; intro g' L' h' FG' F' N' B' X' T' D'; (try dsimp only); (try k_fold)))
set_option hygiene true
local macro_rules | `(tactic| k_steps) => `(tactic| repeat' ((fail_if_success (with_reducible first | show wpAny _ _ (exec (Stmt.For _ _ _ _ _) _) _ _ _ | show wpAny _ _ (exec (Stmt.Try _ _ _ _ _) _) _ _ _ | show wpAny _ _ (compareOp _ (Value.ref _) (Value.ref _)) _ _ _ | show wpAny _ _ (pyIter _) _ _ _ | show wpAny _ _ (call (Value.ref 222) _) _ _ _)); first | (k_unfold; (try dsimp only)) | walk1 | (dsimp only; walk1) | (leave1; walk_say "STEP leave1"; try dsimp only) | fail "no step"))

/-- what stands behind `points = ..` -/
def AfterPts (g : Heap) (L l : Addr) (s : Shared) (f : Flow) (s' : Shared) : Prop :=
  f = .next ∧ ∃ pv t h tk, s' = { s with heap := h, toks := tk } ∧ 0 ≤ pv ∧ pv < 63 ∧ Fr g L h (fun y => if y = Str.ofString "points" then some (.int pv t) else List.lookup y [(Str.ofString "script", .ref l)])
/-- the letter of the turn k -/
def wordAt (k : Nat) : Str := Txt.item (Str.ofString "abc") ((0 + (k : Int)).fmod 3)
/-- the tokens that are laid behind i turns -/
structure ToksP (P : Addr → Obj → Prop) (items : List Value) (i : Nat) : Prop where
  size : items.length = 2 * i + 1
  name0 : ∃ x, items[0]? = some (.ref x) ∧ TokOn P x (Str.ofString "name") (Str.ofString "g")
  dot : ∀ k, k < i → ∃ x, items[2 * k + 1]? = some (.ref x) ∧ TokOn P x (Str.ofString "op") (Str.ofString ".")
  nm : ∀ k, k < i → ∃ x, items[2 * k + 2]? = some (.ref x) ∧ TokOn P x (Str.ofString "name") (wordAt k)
theorem ToksP.mono {P P' : Addr → Obj → Prop} {items : List Value} {n : Nat} (k : ∀ a o, P a o → P' a o) (c : ToksP P items n) : ToksP P' items n :=
  ⟨c.size, let ⟨x, a, b⟩ := c.name0; ⟨x, a, b.mono k⟩, fun i hi => let ⟨x, a, b⟩ := c.dot i hi; ⟨x, a, b.mono k⟩, fun i hi => let ⟨x, a, b⟩ := c.nm i hi; ⟨x, a, b.mono k⟩⟩
theorem ToksP.snoc {P : Addr → Obj → Prop} {items : List Value} {i : Nat} {x y : Addr} (c : ToksP P items i) (hx : TokOn P x (Str.ofString "op") (Str.ofString ".")) (hy : TokOn P y (Str.ofString "name") (wordAt i)) : ToksP P (items ++ [.ref x, .ref y]) (i + 1) where
  size := by rw [List.length_append, c.size]; show 2 * i + 1 + 2 = 2 * (i + 1) + 1; omega
  name0 := by
    obtain ⟨z, a, b⟩ := c.name0
    exact ⟨z, by rw [List.getElem?_append_left (by rw [c.size]; omega)]; exact a, b⟩
  dot := fun k hk => by
    by_cases h : k < i
    · obtain ⟨z, a, b⟩ := c.dot k h
      exact ⟨z, by rw [List.getElem?_append_left (by rw [c.size]; omega)]; exact a, b⟩
    · have e : k = i := by omega
      subst e
      exact ⟨x, by rw [List.getElem?_append_right (by rw [c.size]; omega), c.size, Nat.sub_self]; rfl, hx⟩
  nm := fun k hk => by
    by_cases h : k < i
    · obtain ⟨z, a, b⟩ := c.nm k h
      exact ⟨z, by rw [List.getElem?_append_left (by rw [c.size]; omega)]; exact a, b⟩
    · have e : k = i := by omega
      subst e
      exact ⟨y, by rw [List.getElem?_append_right (by rw [c.size]; omega), c.size, show 2 * k + 2 - (2 * k + 1) = 1 by omega]; rfl, hy⟩
theorem nx_drop {x l d0 d1 d2 a b : Addr × Obj} {rest : List (Addr × Obj)} : ∀ p ∈ x :: d0 :: d1 :: d2 :: rest, p ∈ x :: l :: d0 :: d1 :: d2 :: a :: b :: rest := fun p hp => by
  rcases List.mem_cons.mp hp with rfl | hp
  · exact .head _
  rcases List.mem_cons.mp hp with rfl | hp
  · exact .tail _ (.tail _ (.head _))
  rcases List.mem_cons.mp hp with rfl | hp
  · exact .tail _ (.tail _ (.tail _ (.head _)))
  rcases List.mem_cons.mp hp with rfl | hp
  · exact .tail _ (.tail _ (.tail _ (.tail _ (.head _))))
  exact .tail _ (.tail _ (.tail _ (.tail _ (.tail _ (.tail _ (.tail _ hp))))))
theorem ToksP.all {P : Addr → Obj → Prop} {items : List Value} {n : Nat} {x : Addr} (c : ToksP P items n) (hx : TokOn P x (Str.ofString "op") (Str.ofString ";")) : Toks P (items ++ [Value.ref x]).toArray n wordAt where
  name0 := by
    obtain ⟨z, a, b⟩ := c.name0
    exact ⟨z, by rw [List.getElem?_toArray, List.getElem?_append_left (by rw [c.size]; omega)]; exact a, b⟩
  dot := fun k hk => by
    obtain ⟨z, a, b⟩ := c.dot k hk
    exact ⟨z, by rw [List.getElem?_toArray, List.getElem?_append_left (by rw [c.size]; omega)]; exact a, b⟩
  nm := fun k hk => by
    obtain ⟨z, a, b⟩ := c.nm k hk
    exact ⟨z, by rw [List.getElem?_toArray, List.getElem?_append_left (by rw [c.size]; omega)]; exact a, b⟩
  fin := ⟨x, by rw [List.getElem?_toArray, List.getElem?_append_right (by rw [c.size]; omega), c.size, Nat.sub_self]; rfl, hx⟩
def JT (i : Nat) (pv : Int) (pt : Tok) (m' : Str → Option Value) (nx' : List (Addr × Obj)) : Prop :=
  ∃ T tl items c rest, m' (Str.ofString "tree") = some (.ref (T i)) ∧ m' (Str.ofString "tokens") = some (.ref tl) ∧ m' (Str.ofString "points") = some (.int pv pt) ∧ nx' = (tl, listOf items.toArray c) :: rest ∧ ToksP (MadeIn rest) items i ∧ TreeCh (MadeIn rest) i T wordAt
def PathRight (w : World) (mean : ExcName → Option Value) (mg mb : Str → Option Value) (D U : Nat) : Prop :=
  ∀ (gd : Option (List Code)) (cn : Str) (cs : Scope) (a : Addr) (ccd : Value) (A₀ : Around) (base h₀ : Heap) (L : Addr) (m : Str → Option Value) (s : Shared)
    (Q E : Value → Shared → Prop),
    Below A₀ base [] h₀ → Fr h₀ L s.heap m → (hd.heap_1 w.params).In h₀ → Top hd.view_1 (looseW hd.view_1 [Str.ofString "is_sign"]) mean mg mb h₀ → (hd.heap_1 w.params).In base → Top hd.view_1 (looseW hd.view_1 [Str.ofString "is_sign"]) mean mg mb base → cs.kind = .function →
    ∀ (l : Addr) (ws : List Value) (ns : List Int), h₀.IsList l ws.toArray → IntsAre ws ns → ns.length ≤ 63 →
    (∀ h' tk', Fr h₀ L h' m → Q (.bool true) { s with heap := h', toks := tk' }) →
    wpAny (model PySem.Challenge.rw_xw0005_01.row.prog w) (ktrTop D U gd cn cs L a ccd [] []) (call (.ref 355) [.ref l]) Q E s
set_option maxHeartbeats 40000000 in
theorem path_right (w : World) (mean : ExcName → Option Value) (mg mb : Str → Option Value) : PathRight w mean mg mb 400 4000 := by
  unfold PathRight
  k_fill
  w_top off
  intro gd cn cs a ccd A₀ base h₀ L m s Q E B F X Tp XB TB hk l ws ns hl hI hlen hret
  have N : News h₀ L s.heap [] := fun _ h => nomatch h
  refine wpAny_call ?_
  k_dflt ktr_enter
  have hlg : g'.IsList l ws.toArray := by
    obtain ⟨o, ho, hr⟩ := hl
    exact ⟨o, FG'.keep _ _ ho, hr⟩
  clear F N B X Tp hl
  refine wpAny_execs_cons ?_
  refine wpAny_cut (P := AfterPts g' L' l s) ?pts ?_
  (case pts =>
    k_steps
    · rename Fr _ _ _ _ => F1
      exact ⟨rfl, _, _, _, _, rfl, Int.fmod_nonneg_of_pos _ (by decide), Int.fmod_lt_of_pos _ (by decide), F1⟩
    · rename Fr _ _ _ _ => F1
      exact ⟨rfl, 5, _, _, _, rfl, by decide, by decide, F1⟩)
  clear F' N' hlg
  rintro f s1 ⟨rfl, pv, pt, h1, tk1, rfl, pv0, pv63, F1⟩
  have N1 : News g' L' h1 [] := fun _ h => nomatch h
  dsimp only
  k_steps
  rename Fr _ _ _ _ => F2
  rename News _ _ _ _ => N2
  refine' For_invVF F2 ?k1 ?k2 ?k3 ?k4 ?k5
  (case k1 => exact rfl)
  (case k2 => exact rfl)
  (case k4 => intro _; rfl)
  (case k5 => passes_own)
  k_steps
  rename Fr _ _ _ _ => F3
  rename News _ _ _ _ => N3
  rename IsRange _ _ _ _ _ _ _ _ => RA
  refine loop_range (n := pv.toNat) (fun i => JT i pv pt) rfl RA (small_one (by decide) (by decide) (by omega) (by omega)) (by rw [rangeSize_nat, Int.sub_zero]) F3 N3 ?hj ?turn ?done
  (case hj => exact ⟨fun _ => _, _, _, _, _, rfl, rfl, rfl, rfl, ⟨rfl, ⟨_, rfl, _, _, _, .head _⟩, fun k h => absurd h (Nat.not_lt_zero k), fun k h => absurd h (Nat.not_lt_zero k)⟩, ⟨⟨_, _, .tail _ (.head _)⟩, fun k h => absurd h (Nat.not_lt_zero k)⟩⟩)
  (case done =>
    rintro m₁ nx h4 tk4 ⟨T, tl, items, c, rest, e1, e2, e3, rfl, C1, C2⟩ F4 N4
    have F5 : Fr g' L' h4 _ := fr_all4 F4 e1 e2 e3 e3
    have N5 : News g' L' h4 _ := N4
    clear F4 N4 F3 N3 RA
    dsimp only
    k_steps
    rename_i lN hB FN NN lL
    refine add_lists FN NN (lst_of (NN (tl, listOf items.toArray c) (.tail _ (.tail _ (.head _)))).1) (lst_of (NN (lN, _) (.head _)).1) (fun h6 F6 N6 => ?_) ?hz
    (case hz =>
      have := C1.size
      exact Nat.le_trans (show items.length + 1 ≤ 200 by omega) (Nat.le_of_ble_eq_true rfl))
    clear FN NN
    k_steps
    rename Fr _ _ _ _ => F7
    rename News _ _ _ _ => N7
    refine wpAny_Try_except ?_
    k_steps
    rename Fr _ _ _ _ => FZ
    rename News _ _ _ _ => NZ
    rename (_ ∧ _) => lD
    refine wpAny_room (d := 440) (u := 4400) ?rd ?ru (parse_path w mean mg mb _ _ _ _ _ _ _ _ base g' L' _ _ _ _ B' FZ X' T' rfl _ _ _ _ _ _ _ _ pv.toNat wordAt NZ ?R ?sz (.head _)
      ?tk (news_apart NZ (.head _) (.tail _ (.head _)) (fun e => by cases e)) ?off ?ok ?thr)
    (case rd => exact Nat.le_of_ble_eq_true rfl)
    (case ru => exact Nat.le_of_ble_eq_true rfl)
    (case tk => exact ToksP.all (C1.mono fun a o h => .tail _ (.tail _ (.tail _ (.tail _ h)))) ⟨_, _, _, .tail _ (.tail _ (.head _))⟩)
    (case R => exact ⟨rfl, ⟨_, rfl⟩, ⟨_, rfl⟩, Nat.le_of_ble_eq_true rfl⟩)
    (case sz =>
      have := C1.size
      show (items ++ [_]).toArray.size ≤ 200
      rw [List.size_toArray, List.length_append, this]
      show 2 * pv.toNat + 1 + 1 ≤ 200
      omega)
    (case off => exact List.forall_mem_cons.mpr ⟨Nat.ne_of_lt lD.1, List.forall_mem_cons.mpr ⟨Nat.ne_of_lt lD.2.1, List.forall_mem_cons.mpr ⟨Nat.ne_of_lt lD.2.2.1, List.forall_mem_cons.mpr ⟨Nat.ne_of_lt lD.2.2.2.1, allLt_ne lD.2.2.2.2⟩⟩⟩⟩)
    (case ok =>
      intro hle h7 tk7 es7 nn7 all T7 F10 N10 sub R10 C10
      obtain ⟨ua, hat⟩ := R10.spot
      have hpv : pv ≤ 59 := by omega
      clear NZ FZ
      dsimp only
      k_steps
      rename Fr _ _ _ _ => F11
      rename News _ _ _ _ => N11
      refine cmp_ofEq (tree_eq (n := pv.toNat) (T1 := T7) (T2 := T) (wd := wordAt) ?ca ?cb pv.toNat _ (Nat.le_refl _) ?hu _ _ _ _ ?_)
      (case ca => exact C10.mono fun a o h => (N11 (a, o) (.tail _ (.tail _ h))).1)
      (case cb => exact C2.mono fun a o h => (N11 (a, o) (.tail _ (.tail _ (sub _ (.tail _ (.tail _ (.tail _ (.tail _ h)))))))).1)
      (case hu =>
        refine Nat.lt_of_le_of_lt (Nat.add_le_add_left (show pv.toNat ≤ 63 by omega) _) ?_
        exact Nat.le_of_ble_eq_true rfl)
      k_steps
      refine leaveS0_ F11 N11 KtsTurn.refl fun FX _ => ?_
      have hb : (2 * (pv.toNat : Int) + 1 == 2 * pv + 1) = true := beq_iff_eq.mpr (by omega)
      show Q (.bool (2 * (pv.toNat : Int) + 1 == 2 * pv + 1)) _
      rw [hb]
      exact hret _ _ FX)
    (case thr =>
      intro h60 g₂ e t vs h7 tk7 F10 R10 U10
      clear NZ FZ
      dsimp only
      k_steps
      rename Fr _ _ _ _ => FC
      rename News _ _ _ _ => NC
      rename KtsTurn _ _ _ => TC
      refine leaveS0_ FC NC TC fun FX _ => ?_
      have hb : decide (59 < pv) = true := decide_eq_true (by omega)
      show Q (.bool (decide (59 < pv))) _
      rw [hb]
      exact hret _ _ FX))
  rintro I i ti m₁ nx h4 tk4 oI hi ⟨T, tl, items, c, rest, e1, e2, e3, rfl, C1, C2⟩ off F4 N4
  clear F3 N3 RA
  have F5 : Fr g' L' h4 _ := fr_known4 F4 e1 e2 e3 e3
  have N5 : News g' L' h4 _ := N4
  clear F4 N4
  k_steps
  rename_i D2 hX l2 hY D1 hA l1 D0 hB l0 lN hC FN NN lL
  refine add_lists FN NN (lst_of (NN (tl, listOf items.toArray c) (.tail _ (.tail _ (.tail _ (.tail _ (.tail _ (.head _))))))).1) (lst_of (NN (lN, _) (.head _)).1) (fun h6 F6 N6 => ?_) ?hz
  (case hz =>
    have := C1.size
    exact Nat.le_trans (show items.length + 2 ≤ 200 by omega) (Nat.le_of_ble_eq_true rfl))
  have lt6 : ∀ p ∈ (I, oI) :: rest, p.1 < hC.objs.size := fun p hp => Heap.lt_size (NN p (by
    rcases List.mem_cons.mp hp with rfl | hp
    · exact .tail _ (.tail _ (.tail _ (.tail _ (.head _))))
    · exact .tail _ (.tail _ (.tail _ (.tail _ (.tail _ (.tail _ hp)))))) ).1
  k_steps
  rename Fr _ _ _ _ => F9
  rename News _ _ _ _ => N9
  refine ⟨_, _, _, _, _, rfl, F9, N9, nx_drop, ?n2, ?n3, fun j => if j = i + 1 then D2 else T j, _, items ++ [.ref D1, .ref D0], _, _, congrArg (fun z => some (Value.ref z)) (if_pos rfl).symm, rfl, rfl, rfl, ToksP.snoc (C1.mono fun a o h => .tail _ (.tail _ (.tail _ h))) ⟨_, _, _, .tail _ (.head _)⟩ ⟨_, _, _, .head _⟩, TreeCh.snoc (C2.mono fun a o h => .tail _ (.tail _ (.tail _ h))) (.tail _ (.tail _ (.head _)))⟩
  (case n2 =>
    intro p hp
    rw [List.mem_singleton.mp hp]
    exact .tail _ (.tail _ (.tail _ (.tail _ (.tail _ (.head _))))))
  (case n3 => exact List.forall_mem_cons.mpr ⟨Ne.symm (Nat.ne_of_lt (lt6 (I, oI) (.head _))), List.forall_mem_cons.mpr ⟨Ne.symm (Nat.ne_of_lt l0.2.2.1), List.forall_mem_cons.mpr ⟨Ne.symm (Nat.ne_of_lt l1.2.1), List.forall_mem_cons.mpr ⟨Ne.symm (Nat.ne_of_lt l2.1), fun p hp => off p (.tail _ hp)⟩⟩⟩⟩)

end Mine
-- part LvTop
open Mine
section
local macro_rules | `(tactic| k_qdec) => `(tactic| kernel_rfl)
local macro_rules | `(tactic| k_steps) => `(tactic| repeat' ((fail_if_success (with_reducible show wpAny _ _ (call (Value.ref 348) _) _ _ _)); (fail_if_success (with_reducible show wpAny _ _ (call (Value.ref 355) _) _ _ _)); first | (k_unfold; (try dsimp only)) | walk1 | (dsimp only; walk1) | (leave1; walk_say "STEP leave1"; try dsimp only) | fail "no step"))
set_option maxHeartbeats 8000000 in
theorem PySem.Challenge.cw_xw0005_01_holds : PySem.Challenge.rw_xw0005_01.Holds := by
  refine hd ?_
  k_go0
  all_goals try k_fold
  k_steps
  rename Fr _ _ _ _ => F1
  rename News _ _ _ _ => N1
  rename Below _ _ _ _ => K1
  rename IntsAre _ _ => I2
  rename Frag.In _ _ => X1
  rename Top _ _ _ _ _ _ => T1
  refine wpAny_room (d := 400) (u := 4000) ?rd ?ru (lev_right _ _ _ _ _ _ _ _ _ _ _ _ _ _ _ _ _ K1 F1 X1 T1 X1 T1 rfl _ _ _ _ N1 I2 ?len ?ret)
  (case rd => exact Nat.le_of_ble_eq_true rfl)
  (case ru => exact Nat.le_of_ble_eq_true rfl)
  (case len => omega)
  intro h3 tk3 F3
  clear F1 N1
  k_steps
  rename Heap.IsList _ _ _ => HL
  refine wpAny_room (d := 400) (u := 4000) ?rd2 ?ru2 (path_right _ _ _ _ _ _ _ _ _ _ _ _ _ _ _ _ _ K1 F3 X1 T1 X1 T1 rfl _ _ _ HL (by assumption) ?len2 ?ret2)
  (case rd2 => exact Nat.le_of_ble_eq_true rfl)
  (case ru2 => exact Nat.le_of_ble_eq_true rfl)
  (case len2 => omega)
  intro h4 tk4 F4
  clear F3
  wrow_close
end

