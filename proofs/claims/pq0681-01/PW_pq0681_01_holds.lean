import PyProof.Rows.All
import Wide.All
import OpenK.AllK
import Wide.FinOn
import PySem.Challenge.RW_pq0681_01
open PySem PySem.W PyProof.Rows
set_option Elab.async false
namespace Mine
/-- the statements of the text at these places -/
noncomputable def pick (l : List Stmt) (is : List Nat) : List Stmt := is.filterMap fun i => l[i]?
noncomputable def keptAt : List Nat := [0, 2, 3, 4, 5, 6, 7, 8, 9, 10, 11, 12, 13, 14, 15, 16, 17, 18, 19, 21, 22, 23, 24, 25, 26, 27, 28, 29, 30, 31, 32, 33, 34, 36, 37, 38, 39, 41, 42, 43, 44, 45, 46]
noncomputable def vw : Program := { PySem.Challenge.rw_pq0681_01.row.toRowW.prog with main := { PySem.Challenge.rw_pq0681_01.row.toRowW.prog.main with body := pick PySem.Challenge.rw_pq0681_01.row.toRowW.prog.main.body keptAt } }
noncomputable def lvs : List (Str × WData) := [(Str.ofString "MAX_ARRAY", WData.int 67108864), (Str.ofString "MAX_INT", WData.int 2147483645), (Str.ofString "MOST_SLOTS", WData.int 4194304), (Str.ofString "MOST_PLACES", WData.int 1048576)]
noncomputable def runT (tb : String → Option Builtin) (p : Program) (w : World) (n₀ : Nat) (ann : Option Value) : Nat → SharedT → Thread → Option SharedT
  | 0, _, _ => none
  | n + 1, s, t => match through t with
    | true => some s
    | false => match PySem.W.Fast.tw6613529449190102663 n₀ ann t with
      | false => none
      | true => match PySem.W.Fast.tw10156331382660048174 (PySem.W.Fast.tw11892475500146522536 tb) p w s t with
        | some (s', t') => runT tb p w n₀ ann n s' t'
        | none => none
theorem runT_of {tb : String → Option Builtin} {p : Program} {w : World} {n₀ : Nat} {ann : Option Value} : ∀ (n : Nat) (s s' : SharedT) (t : Thread), runT tb p w n₀ ann n s t = some s' → topRun tb p w n₀ ann n s.abs t = some s'.abs
  | 0, _, _, _, h => by simp [runT] at h
  | n + 1, s, s', t, h => by
    unfold runT at h
    rw [← PySem.W.Fast.te6613529449190102663, ← PySem.W.Fast.te10156331382660048174, ← PySem.W.Fast.te11892475500146522536] at h
    unfold topRun
    cases ht : through t with
    | true => rw [ht] at h; obtain rfl : s = s' := Option.some.inj h; rfl
    | false =>
      rw [ht] at h
      cases hk : stepOk n₀ ann t with
      | false => rw [hk] at h; cases h
      | true =>
        rw [hk] at h
        cases hs : stepT (denote tb) p w s t with
        | none => rw [hs] at h; cases h
        | some r =>
          obtain ⟨s1, t1⟩ := r
          rw [hs] at h
          have e := stepT_spec hs
          simp only [e]
          exact runT_of n s1 s' t1 h
noncomputable def treeUp : List Obj → Nat → BT → BT
  | [], _, t => t
  | o :: l, n, t => treeUp l (n + 1) (t.ins n o)
noncomputable def bootT (P : Params) : BT := treeUp (boot_heap P).objs.toList 0 .nil
set_option maxRecDepth 100000 in
theorem boot_abs (P : Params) : boot_heap P = absHeap (bootT P) (boot_heap P).objs.size (boot_heap P).life := by kernel_rfl
theorem saidOf : PySem.Challenge.rw_pq0681_01.wellSaid = true := by kernel_rfl
local macro_rules
  | `(tactic| o_law) => `(tactic| refine holds_law saidOf fun said => ?_)
noncomputable abbrev sT0 (w : World) (os : OsState) : SharedT := ⟨bootT w.params, (boot_heap w.params).objs.size, (boot_heap w.params).life, Array.mk [], boot_drawn, boot_toks, os⟩
theorem ns_boot (P : Params) : (boot_heap P).isNs mainGlobals = true := by kernel_rfl
theorem topFrom_tree {tb : String → Option Builtin} {p : Program} {w : World} {N : Nat} {α : Type} {F : Shared → α} {G : α} {s₀ : Shared} {sT : SharedT} (e : s₀ = sT.abs) (n0 : (s₀.heap.isNs mainGlobals && s₀.gens.size == 0) = true)
    (h : (runT tb p w s₀.heap.objs.size (s₀.heap.nsMap mainGlobals "__annotations__") N sT (topStub p)).map
      (fun s₁ => (staticsOk (importedModules p.main.body) s₀.heap s₁.abs.heap && namesBound p s₁.abs.heap && gensDone s₁.abs && laidKept s₀.heap s₁.abs.heap, F s₁.abs)) = some (true, G)) :
    Option.map F (topFrom tb p w N s₀) = some G := by
  obtain ⟨s₁, hr, hc⟩ := Option.map_eq_some_iff.mp h
  have r := runT_of _ _ _ _ hr
  rw [← e] at r
  obtain ⟨c1, c2⟩ := Prod.mk.inj hc
  unfold topFrom
  rw [n0]
  show Option.map F ((topRun _ _ _ _ _ _ _ _).bind _) = _
  rw [r]
  show Option.map F (match _ with | true => some s₁.abs | false => none) = some G
  rw [c1]
  exact congrArg some c2
theorem atTree (w : World) {α : Type} (F : Shared → α) (G : α)
    (h : ∀ os : OsState, (runT treeTable PySem.Challenge.rw_pq0681_01.row.prog w (boot_heap w.params).objs.size ((boot_heap w.params).nsMap mainGlobals "__annotations__") 6530 (sT0 w os) (topStub PySem.Challenge.rw_pq0681_01.row.prog)).map
      (fun s₁ => (staticsOk (importedModules PySem.Challenge.rw_pq0681_01.row.prog.main.body) (boot_heap w.params) s₁.abs.heap && namesBound PySem.Challenge.rw_pq0681_01.row.prog s₁.abs.heap && gensDone s₁.abs && laidKept (boot_heap w.params) s₁.abs.heap, F s₁.abs)) = some (true, G)) :
    Option.map F (openEnds treeTable PySem.Challenge.rw_pq0681_01.row.prog w 6530) = some G := by
  obtain ⟨s, hs, hv⟩ := Option.map_eq_some_iff.mp (boot_open (p := PySem.Challenge.rw_pq0681_01.row.prog) (N := 6530) (by kernel_rfl) (by rfl) (fun _ => by kernel_rfl) w)
  obtain ⟨h1, g1, d1, t1, os⟩ := s
  obtain ⟨e1, hv⟩ := Prod.mk.inj hv
  obtain ⟨e2, hv⟩ := Prod.mk.inj hv
  obtain ⟨e3, e4⟩ := Prod.mk.inj hv
  have e1 : h1 = boot_heap w.params := e1
  have e2 : g1 = Array.mk [] := e2
  have e3 : d1 = boot_drawn := e3
  have e4 : t1 = boot_toks := e4
  unfold openEnds
  rw [hs]
  show Option.map F (topFrom _ _ _ _ _) = _
  rw [e1, e2, e3, e4]
  refine topFrom_tree (sT := sT0 w os) ?_ ?_ (h os)
  · show Shared.mk _ _ _ _ _ = Shared.mk _ _ _ _ _
    rw [← boot_abs]
  · show ((boot_heap w.params).isNs mainGlobals && _) = true
    rw [ns_boot]; rfl
abbrev looseN : List Str := [Str.ofString "HeapObject", Str.ofString "MAX_ARRAY", Str.ofString "MAX_INT", Str.ofString "MOST_SLOTS", Str.ofString "MOST_PLACES", Str.ofString "Table"]
noncomputable def xtF (s : Shared) : Bool := xlAt vw lvs s && recOk (RowW.records PySem.Challenge.rw_pq0681_01.row.toRowW) s
local macro_rules
  | `(tactic| o_head $H) => `(tactic| (
      refine holds_open (q := vw) (loose := looseN) (Xt := xtF) (XP := XL vw lvs) (Yf := Hook.obs $H) (Ya := Hook.val $H) (YP := Hook.says $H) (N := 6530)
        ?hl (Hook.of $H) (Hook.keeps $H) (fun s e => xl_of s (Bool.and_eq_true_iff.mp e).1) XL.keeps (by rfl) (by rfl) (by rfl) (fun s e => recFacts_of (Bool.and_eq_true_iff.mp e).2) (by rfl) (by first | assumption | decide +kernel) (by decide +kernel) ⟨rfl, rfl, rfl, rfl, rfl, by decide +kernel⟩ ?hw ?hc
      (case hl => walk_at "HL")))
local macro_rules | `(tactic| walk_at $s:str) => `(tactic| k_extra $s)
theorem wd_top : True := by
  k_with "HL" => (intro w; refine atTree w _ _ fun os => ?_; rw [PySem.W.Fast.te14364793385576792824, PySem.W.Fast.te4187177175401517315, PySem.W.Fast.te5923862056798008813]; kernel_rfl)
  exact trivial
set_option maxRecDepth 100000 in
set_option maxHeartbeats 8000000 in
open_top hd for PySem.Challenge.rw_pq0681_01
end Mine
namespace Mine
noncomputable abbrev PR : Program := PySem.Challenge.rw_pq0681_01.row.prog
noncomputable abbrev VW : Program := Mine.vw
noncomputable abbrev LO : List Str := looseW VW looseN
noncomputable abbrev KK (w : World) : Frag := Mine.hd.heap_1 w.params
abbrev Led := List (Addr × Obj)

/-- what a call of the def at f gives: from a ledger of which P holds, a value and a ledger of which R holds -/
def Spec (w : World) (f : Addr) (args : List Value) (cost : Nat) (P : Led → Prop) (R : Led → Value → Led → Prop) : Prop :=
  ∀ (mean : ExcName → Option Value) (mg mb : Str → Option Value) (dp un : Nat) (gd : Option (List Code)) (cn : Str) (cs : Scope) (a : Addr) (ccd : Value) (cl : List (Str × Addr)) (outer : List Env) (A₀ : Around) (base h₀ : Heap) (L : Addr) (m : Str → Option Value) (news : Led) (s : Shared)
    (Q E : Value → Shared → Prop),
    Below A₀ base outer h₀ → Fr h₀ L s.heap m → (Mine.hd.heap_1 w.params).In h₀ → News h₀ L s.heap news → Top VW LO mean mg mb h₀ → cs.kind = .function → P news → dp + cost < recursionLimit → un + 8 * cost < cLine →
    (∀ r h' tk' news', Fr h₀ L h' m → News h₀ L h' news' → R news r news' → Q r { s with heap := h', toks := tk' }) →
    wpAny (model PySem.Challenge.rw_pq0681_01.row.prog w) (ktrTop dp un gd cn cs L a ccd cl outer) (call (.ref f) args) Q E s

theorem Spec.use {w : World} {f : Addr} {args : List Value} {cost : Nat} {P : Led → Prop} {R : Led → Value → Led → Prop} (S : Spec w f args cost P R)
    {mean : ExcName → Option Value} {mg mb : Str → Option Value} {dp un : Nat} {gd : Option (List Code)} {cn : Str} {cs : Scope} {a : Addr} {ccd : Value} {cl : List (Str × Addr)} {outer : List Env} {A₀ : Around} {base h₀ : Heap} {L : Addr} {m : Str → Option Value} {news : Led} {s : Shared}
    {Q E : Value → Shared → Prop} (B : Below A₀ base outer h₀) (F : Fr h₀ L s.heap m) (X : (Mine.hd.heap_1 w.params).In h₀) (N : News h₀ L s.heap news) (T : Top VW LO mean mg mb h₀) (hk : cs.kind = .function) (hP : P news) (hd : dp + cost < recursionLimit) (hu : un + 8 * cost < cLine)
    (ret : ∀ r h' tk' news', Fr h₀ L h' m → News h₀ L h' news' → R news r news' → Q r { s with heap := h', toks := tk' }) :
    wpAny (model PySem.Challenge.rw_pq0681_01.row.prog w) (ktrTop dp un gd cn cs L a ccd cl outer) (call (.ref f) args) Q E s :=
  S _ _ _ _ _ _ _ _ _ _ _ _ _ _ _ _ _ _ _ _ _ B F X N T hk hP hd hu ret
structure Halt (p : Prop) : Prop where
  out : p
theorem Halt.go {p : Prop} (h : Halt p) : p := h.out
theorem News.tl {h₀ h : Heap} {L : Addr} {p : Addr × Obj} {l : Led} (N : News h₀ L h (p :: l)) : News h₀ L h l := fun q hq => N q (.tail _ hq)
def SameB (b : Bool) : Led → Value → Led → Prop := fun n0 r n1 => n1 = n0 ∧ r = .bool b
def SameI (i : Int) : Led → Value → Led → Prop := fun n0 r n1 => n1 = n0 ∧ ∃ t, r = .int i t
def Any : Led → Prop := fun _ => True
theorem Spec.useB {w : World} {f : Addr} {args : List Value} {cost : Nat} {P : Led → Prop} {b : Bool} (S : Spec w f args cost P (SameB b))
    {mean : ExcName → Option Value} {mg mb : Str → Option Value} {dp un : Nat} {gd : Option (List Code)} {cn : Str} {cs : Scope} {a : Addr} {ccd : Value} {cl : List (Str × Addr)} {outer : List Env} {A₀ : Around} {base h₀ : Heap} {L : Addr} {m : Str → Option Value} {news : Led} {s : Shared}
    {Q E : Value → Shared → Prop} (B : Below A₀ base outer h₀) (F : Fr h₀ L s.heap m) (X : (Mine.hd.heap_1 w.params).In h₀) (N : News h₀ L s.heap news) (T : Top VW LO mean mg mb h₀) (hk : cs.kind = .function) (hP : P news) (hd : dp + cost < recursionLimit) (hu : un + 8 * cost < cLine)
    (ret : ∀ h' tk', Fr h₀ L h' m → News h₀ L h' news → Q (.bool b) { s with heap := h', toks := tk' }) :
    wpAny (model PySem.Challenge.rw_pq0681_01.row.prog w) (ktrTop dp un gd cn cs L a ccd cl outer) (call (.ref f) args) Q E s :=
  S.use B F X N T hk hP hd hu fun _ h' tk' _ F' N' R' => by obtain ⟨e1, e2⟩ := R'; subst e1; subst e2; exact ret h' tk' F' N'
theorem Spec.useI {w : World} {f : Addr} {args : List Value} {cost : Nat} {P : Led → Prop} {i : Int} (S : Spec w f args cost P (SameI i))
    {mean : ExcName → Option Value} {mg mb : Str → Option Value} {dp un : Nat} {gd : Option (List Code)} {cn : Str} {cs : Scope} {a : Addr} {ccd : Value} {cl : List (Str × Addr)} {outer : List Env} {A₀ : Around} {base h₀ : Heap} {L : Addr} {m : Str → Option Value} {news : Led} {s : Shared}
    {Q E : Value → Shared → Prop} (B : Below A₀ base outer h₀) (F : Fr h₀ L s.heap m) (X : (Mine.hd.heap_1 w.params).In h₀) (N : News h₀ L s.heap news) (T : Top VW LO mean mg mb h₀) (hk : cs.kind = .function) (hP : P news) (hd : dp + cost < recursionLimit) (hu : un + 8 * cost < cLine)
    (ret : ∀ t1 h' tk', Fr h₀ L h' m → News h₀ L h' news → Q (.int i t1) { s with heap := h', toks := tk' }) :
    wpAny (model PySem.Challenge.rw_pq0681_01.row.prog w) (ktrTop dp un gd cn cs L a ccd cl outer) (call (.ref f) args) Q E s :=
  S.use B F X N T hk hP hd hu fun _ h' tk' _ F' N' R' => by obtain ⟨e1, t1, e2⟩ := R'; subst e1; subst e2; exact ret t1 h' tk' F' N'
/-- the use of a contract whose post is taken apart ahead, away from the goal: C turns R into its continuation -/
theorem Spec.useK {w : World} {f : Addr} {args : List Value} {cost : Nat} {P : Led → Prop} {R : Led → Value → Led → Prop} (S : Spec w f args cost P R) {Cont : (Value → Led → Prop) → Prop}
    {mean : ExcName → Option Value} {mg mb : Str → Option Value} {dp un : Nat} {gd : Option (List Code)} {cn : Str} {cs : Scope} {a : Addr} {ccd : Value} {cl : List (Str × Addr)} {outer : List Env} {A₀ : Around} {base h₀ : Heap} {L : Addr} {m : Str → Option Value} {news : Led} {s : Shared}
    {Q E : Value → Shared → Prop} (B : Below A₀ base outer h₀) (F : Fr h₀ L s.heap m) (X : (Mine.hd.heap_1 w.params).In h₀) (N : News h₀ L s.heap news) (T : Top VW LO mean mg mb h₀) (hk : cs.kind = .function) (hP : P news) (hd : dp + cost < recursionLimit) (hu : un + 8 * cost < cLine)
    (C : ∀ G : Value → Led → Prop, Cont G → ∀ r n', R news r n' → G r n')
    (ret : Cont (fun r n' => ∀ h' tk', Fr h₀ L h' m → News h₀ L h' n' → Q r { s with heap := h', toks := tk' })) :
    wpAny (model PySem.Challenge.rw_pq0681_01.row.prog w) (ktrTop dp un gd cn cs L a ccd cl outer) (call (.ref f) args) Q E s :=
  S.use B F X N T hk hP hd hu fun r h' tk' n' F' N' R' => C _ ret r n' R' h' tk' F' N'
/-! markers: a word of the walk that stands for the whole part fires only where its marker stands in the context -/
structure HaltAt (k : String) : Prop where
theorem haltAt (k : String) : HaltAt k := ⟨⟩
theorem Halt.at {k : String} {p : Prop} (_ : HaltAt k) (h : Halt p) : p := h.out
/-! steps that name what would be copied: the rest of the text, the names of a frame -/
theorem foldQ {α : Type} {M : Model} {A : Around} {t : Sem α} {Q : α → Shared → Prop} {E : Value → Shared → Prop} {s : Shared} (h : let qs := Q; wpAny M A t qs E s) : wpAny M A t Q E s := h
section
variable {M : Model} {A : Around} {E : Value → Shared → Prop} {hp : Heap} {gn : Array GenState} {dr : Drawn} {tk : Nat} {os : OsState} {h₀ : Heap} {L a : Addr} {m : Str → Option Value} {cn : Str} {cs : Scope} {ccd : Value} {cl : List (Str × Addr)}
  {x : Str} {v : Value} {Q : Unit → Shared → Prop} {news : List (Addr × Obj)}
theorem store_ (F : Fr h₀ L hp m) (N : News h₀ L hp news)
    (h : ∀ h' tk', let mm : Str → Option Value := fun y => if y = x then some v else m y; Fr h₀ L h' mm → News h₀ L h' news → Q () ⟨h', gn, dr, tk', os⟩)
    (hk : cs.kind = .function) (hx : (envX cn cs L a ccd cl).kindOf x = some .local) : wpAny M A (storeName (envX cn cs L a ccd cl) x v) Q E ⟨hp, gn, dr, tk, os⟩ :=
  storeX_L (s := ⟨hp, gn, dr, tk, os⟩) F N (fun h' F' N' => h h' _ F' N') hk hx
end
section
variable {prog : Program} {w : World} {A A₀ : Around} {hp : Heap} {gn : Array GenState} {dr : Drawn} {tk : Nat} {os : OsState} {K : Frag} {L : Addr} {h₀ base : Heap} {m mg mb : Str → Option Value} {news : List (Addr × Obj)} {p : Program} {loose : List Str} {mean : ExcName → Option Value}
theorem enter_ {env : Env} {outer : List Env} {R : Result → Shared → Prop} {name qual : Str} {params : Arguments} {body : List Stmt} {scope : Scope} {dV kV doc pm cdv ct oc : Value} {an od : Option Addr} {osl : Array (Option Value)} {f : Addr} {args : Args} {binds : List (Str × Value)}
    (B : Below A₀ base outer h₀) (F : Fr h₀ L hp m) (X₀ : K.In h₀) (N : News h₀ L hp news) (T : Top p loose mean mg mb h₀) (hA : A.frames = some (env :: outer)) (hf : env.frame = some L) (hke : env.scope.kind = .function)
    (ho : K.lookup f = some ⟨oc, od, .func (fnOf name qual params body scope dV kV doc pm an cdv ct), osl⟩) (hcd : codeIn K cdv qual = true) (hroom : A.depth < recursionLimit)
    (hbind : BindsTo ⟨hp, gn, dr, tk, os⟩ (fnOf name qual params body scope dV kV doc pm an cdv ct) args binds) (hloc : ∀ y ∈ binds, scope.names.lookup y.1 = some .local)
    (h : ∀ g L' h₁ tk', Fr h₀ L g m → let mm : Str → Option Value := fun y => binds.reverse.lookup y; Fr g L' h₁ mm → News g L' h₁ news → Below A base (env :: outer) g → K.In g → Top p loose mean mg mb g →
      let qk : Flow → Shared → Prop := fun fl s' => LeaveK h₀ L m g R (match fl with | .ret v => v | _ => .none) s'
      let ek : Value → Shared → Prop := fun e s' => wpAny (model prog w) (A.deeper (envOf qual scope L' f cdv)) (leaving (envOf qual scope L' f cdv) e) (fun _ s'' => R (.error e) s'') (fun e' s'' => R (.error e') s'') s'
      wpAny (model prog w) (A.deeper (envOf qual scope L' f cdv)) (execs body (envOf qual scope L' f cdv)) qk ek ⟨h₁, gn, dr, tk', os⟩)
    (hco : scope.isCoroutine = false) (hgen : scope.isGenerator = false) (hk : scope.kind = .function) (hcell : ∀ x ∈ scope.names, x.2 ≠ .cell) : codeAny (model prog w) A (.call (.ref f) args) R ⟨hp, gn, dr, tk, os⟩ :=
  code_def (s := ⟨hp, gn, dr, tk, os⟩) B F X₀ N T hA hf hke ho hcd hroom hbind hloc (fun g L' h₁ FG F' N' B' X' T' => h g L' h₁ _ FG F' N' B' X' T') hco hgen hk hcell
end
/-! states of loops taken apart in one step -/
section
variable {α β γ δ ε ζ η θ : Type}
theorem all3 {P : α × β × γ → Prop} (h : ∀ a b c, P (a, b, c)) (x : α × β × γ) : P x := h x.1 x.2.1 x.2.2
theorem all4 {P : α × β × γ × δ → Prop} (h : ∀ a b c d, P (a, b, c, d)) (x : α × β × γ × δ) : P x := h x.1 x.2.1 x.2.2.1 x.2.2.2
theorem all5 {P : α × β × γ × δ × ε → Prop} (h : ∀ a b c d e, P (a, b, c, d, e)) (x : α × β × γ × δ × ε) : P x := h x.1 x.2.1 x.2.2.1 x.2.2.2.1 x.2.2.2.2
theorem all22 {P : (α × β) × (γ × δ) → Prop} (h : ∀ a b c d, P ((a, b), (c, d))) (x : (α × β) × (γ × δ)) : P x := h x.1.1 x.1.2 x.2.1 x.2.2
theorem all32 {P : (α × β × γ) × (δ × ε) → Prop} (h : ∀ a b c d e, P ((a, b, c), (d, e))) (x : (α × β × γ) × (δ × ε)) : P x := h x.1.1 x.1.2.1 x.1.2.2 x.2.1 x.2.2
theorem all43 {P : (α × β × γ × δ) × (ε × ζ × η) → Prop} (h : ∀ a b c d e f g, P ((a, b, c, d), (e, f, g))) (x : (α × β × γ × δ) × (ε × ζ × η)) : P x := h x.1.1 x.1.2.1 x.1.2.2.1 x.1.2.2.2 x.2.1 x.2.2.1 x.2.2.2
theorem all44 {P : (α × β × γ × δ) × (ε × ζ × η × θ) → Prop} (h : ∀ a b c d e f g i, P ((a, b, c, d), (e, f, g, i))) (x : (α × β × γ × δ) × (ε × ζ × η × θ)) : P x := h x.1.1 x.1.2.1 x.1.2.2.1 x.1.2.2.2 x.2.1 x.2.2.1 x.2.2.2.1 x.2.2.2.2
end
/-! room and units, one frame further in -/
theorem dlt {a c c' : Nat} (h : a + c < recursionLimit) (e : c' + 1 ≤ c) : a + 1 + c' < recursionLimit := by omega
theorem dlt0 {a c : Nat} (h : a + c < recursionLimit) : a < recursionLimit := by omega
theorem dlt1 {a c : Nat} (h : a + c < recursionLimit) (e : 1 ≤ c) : a + 1 < recursionLimit := by omega
theorem ult {a c c' : Nat} (h : a + 8 * c < cLine) (e : c' + 1 ≤ c) : a + 3 + 8 * c' < cLine := by omega
theorem kstB_ne {f : Str → Option Value} {k z : Str} {v : Value} {r : List (Str × Value)} (h : ¬ z = k) : kstB f ((k, v) :: r) z = kstB f r z := by rw [kstB]; exact if_neg h
theorem kstB_nil (f : Str → Option Value) (z : Str) : kstB f [] z = f z := rfl
end Mine
namespace Mine
local macro_rules | `(tactic| walk_at $s:str) => `(tactic| k_extra $s)
section
theorem wd_P1_0 : True := by
  k_with_none
  exact trivial
theorem wd_P1_1 : True := by
  k_with "KD" => first | exact dlt (by assumption) (by first | decide | omega) | exact dlt1 (by assumption) (by first | decide | omega) | exact dlt0 (by assumption) | ktr_room
  k_with "KU" => first | exact ult (by assumption) (by first | decide | omega) | ktr_units
  k_with "ENTER" => (refine' enter_ ?zqk1 ?zqk2 ?zqk3 ?zqk4 ?zqk5 ?zqkA ?zqkF ?zqkK ?zqk6 ?zqk7 ?zqk8 ?zqk9 ?zqkB ?_ ?zqc2 ?zqc3 ?zqc4 ?zqc5; (case zqkA => exact rfl); (case zqkF => exact rfl); (case zqkK => first | exact rfl | assumption); (case zqk1 => k_asm); (case zqk2 => k_asm); (case zqk3 => k_asm); (case zqk4 => k_asm); (case zqk5 => k_asm); (case zqk6 => k_is); (case zqk7 => k_is); (case zqk8 => walk_at "KD"); (case zqk9 => first | exact BindsTo.of_eq rfl | exact binds_K (by k_in) rfl (by k_is) rfl rfl rfl | fail "ENTER: no rule for these arguments"); (case zqc5 => decide); (case zqkB => exact locs rfl); (case zqc2 => exact rfl); (case zqc3 => exact rfl); (case zqc4 => exact rfl); k_whole; intro g' L' h' tk' FG' mm F' N' B' X' T' qk ek)
  k_with "call ref" => (k_here; k_dflt (first | (refine' call_cls0 ?zqk1 ?zqk2 ?zqk3 ?zqk4 ?zqk5 ?_; (case zqk1 => k_asm); (case zqk2 => k_asm); (case zqk3 => k_asm); (case zqk4 => k_is); (case zqk5 => k_is); k_whole; intro x' d' h' F' N' l1 l2; (try k_lt l1); (try k_lt2 l2); (try k_sweep)) | (refine' call_cls ?zqk1 ?zqk2 ?zqk3 ?zqk4 ?zqk5 ?zqk6 ?_; (case zqk1 => k_asm); (case zqk2 => k_asm); (case zqk3 => k_asm); (case zqk4 => k_is); (case zqk5 => k_is); (case zqk6 => k_is); k_whole; intro x' d' h' F' N' l1 l2; (try k_lt l1); (try k_lt2 l2); (try k_sweep); walk_at "ENTER") | (refine' call_meth ?zqk1 ?zqk2 ?_; (case zqk1 => k_asm); (case zqk2 => k_mem); k_whole; walk_at "ENTER") | (refine wpAny_call ?_; walk_at "ENTER")))
  k_with "call builtin:len" => (k_here; (with_reducible show wpAny _ _ (call (Value.builtin "len") [Value.ref _]) _ _ _); k_dflt (refine' kst_len ?zqk1 ?zqk2 ?zqk3 ?zqk4 ?_; (case zqk1 => k_asm); (case zqk2 => k_mem); (case zqk3 => first | assumption | exact rfl); (case zqk4 => omega); k_whole))
  k_with "WhileStep2" => (first | (with_reducible show WhileStep2 _ _ _ _ _ _ (Flow.ret _) _) | (with_reducible show WhileStep2 _ _ _ _ _ _ Flow.brk _)); (dsimp only [WhileStep2])
  k_with "execs cons" => (k_here; refine wpAny_execs_cons (foldQ ?_); intro qs)
  k_with "storeName" => (k_here; (try dsimp only); k_dflt (refine' store_ ?zqF ?zqN ?_ ?zqa ?zqb; (case zqF => k_asm); (case zqN => k_asm); (case zqa => first | exact rfl | assumption); (case zqb => rfl); k_whole; intro h' tk' mm F' N'; (try k_sweep)))
  k_with "exec While Compare cons nil" => refine Halt.go ?_
  k_with "pyIter ref" => refine Halt.go ?_
  k_with "call type:enumerate" => refine Halt.go ?_
  k_with "KswEnd" => refine Halt.at (k := "KswEnd") (by assumption) ?_
  k_with "subscriptTail" => refine Halt.at (k := "subscriptTail") (by assumption) ?_
  k_with "eval ListComp" => refine Halt.at (k := "eval ListComp") (by assumption) ?_
  k_with "CompSrc" => refine Halt.at (k := "CompSrc") (by assumption) ?_
  k_with "CompEnd" => refine Halt.at (k := "CompEnd") (by assumption) ?_
  k_with "call ref" => refine Halt.at (k := "call ref") (by assumption) ?_
  k_with "call builtin:sorted" => refine Halt.at (k := "call builtin:sorted") (by assumption) ?_
  k_with "call builtin:repr" => refine Halt.at (k := "call builtin:repr") (by assumption) ?_
  k_with "unpackItems ref" => refine Halt.at (k := "unpackItems ref") (by assumption) ?_
  k_with "compareOp Eq ref ref" => refine Halt.at (k := "compareOp Eq ref ref") (by assumption) ?_
  k_with "call type:str" => refine Halt.at (k := "call type:str") (by assumption) ?_
  exact trivial

set_option maxRecDepth 100000 in
set_option maxHeartbeats 8000000 in
theorem isnum_int (w : World) (i : Int) (t : Tok) : Spec w 90 [.int i t] 4 Any (SameB true) := by
  unfold Spec
  k_fill
  intro mean mg mb dp un gd cn cs a ccd cl outer A₀ base h₀ L m news s Q E B F X N TP hk hP hd hu hret
  w_top on
  w_on
  k_steps
  all_goals first | exact hret _ _ _ _ (by k_asm) (by first | k_asm | exact News.tl (by k_asm) | exact News.tl (News.tl (by k_asm)) | exact News.tl (News.tl (News.tl (by k_asm)))) ⟨rfl, rfl⟩ | skip
set_option maxRecDepth 100000 in
set_option maxHeartbeats 8000000 in
theorem isnum_bytes (w : World) (i : Array UInt8) (t : Tok) : Spec w 90 [.bytes i t] 4 Any (SameB false) := by
  unfold Spec
  k_fill
  intro mean mg mb dp un gd cn cs a ccd cl outer A₀ base h₀ L m news s Q E B F X N TP hk hP hd hu hret
  w_top on
  w_on
  k_steps
  all_goals first | exact hret _ _ _ _ (by k_asm) (by first | k_asm | exact News.tl (by k_asm) | exact News.tl (News.tl (by k_asm)) | exact News.tl (News.tl (News.tl (by k_asm)))) ⟨rfl, rfl⟩ | skip
set_option maxRecDepth 100000 in
set_option maxHeartbeats 8000000 in
theorem isnum_none (w : World)  : Spec w 90 [.none] 4 Any (SameB false) := by
  unfold Spec
  k_fill
  intro mean mg mb dp un gd cn cs a ccd cl outer A₀ base h₀ L m news s Q E B F X N TP hk hP hd hu hret
  w_top on
  w_on
  k_steps
  all_goals first | exact hret _ _ _ _ (by k_asm) (by first | k_asm | exact News.tl (by k_asm) | exact News.tl (News.tl (by k_asm)) | exact News.tl (News.tl (News.tl (by k_asm)))) ⟨rfl, rfl⟩ | skip
set_option maxRecDepth 100000 in
set_option maxHeartbeats 8000000 in
theorem isnum_bool (w : World) (b : Bool) : Spec w 90 [.bool b] 4 Any (SameB false) := by
  unfold Spec
  k_fill
  intro mean mg mb dp un gd cn cs a ccd cl outer A₀ base h₀ L m news s Q E B F X N TP hk hP hd hu hret
  w_top on
  w_on
  k_steps
  all_goals first | exact hret _ _ _ _ (by k_asm) (by first | k_asm | exact News.tl (by k_asm) | exact News.tl (News.tl (by k_asm)) | exact News.tl (News.tl (News.tl (by k_asm)))) ⟨rfl, rfl⟩ | skip
set_option maxRecDepth 100000 in
set_option maxHeartbeats 8000000 in
theorem isnum_tab (w : World) (x d : Addr) : Spec w 90 [.ref x] 4 (fun nw => (x, instObj 408 d) ∈ nw ∧ ∃ o, (d, o) ∈ nw) (SameB false) := by
  unfold Spec
  k_fill
  intro mean mg mb dp un gd cn cs a ccd cl outer A₀ base h₀ L m news s Q E B F X N TP hk hP hd hu hret
  w_top on
  w_on
  obtain ⟨hx, o, ho⟩ := hP
  k_steps
  all_goals first | exact hret _ _ _ _ (by k_asm) (by first | k_asm | exact News.tl (by k_asm) | exact News.tl (News.tl (by k_asm)) | exact News.tl (News.tl (News.tl (by k_asm)))) ⟨rfl, rfl⟩ | skip
theorem wd_P1_2 : True := by
  k_with "call ref" => (k_here; k_dflt ((refine' Spec.useB (isnum_int _ _ _) ?zqk1 ?zqk2 ?zqk3 ?zqk4 ?zqk5 ?zqkK ?zqkP ?zqkd ?zqku ?_; (case zqk1 => k_asm); (case zqk2 => k_asm); (case zqk3 => k_asm); (case zqk4 => k_asm); (case zqk5 => k_asm); (case zqkK => first | exact rfl | assumption); (case zqkP => trivial); (case zqkd => walk_at "KD"); (case zqku => walk_at "KU"); k_whole; intro h' tk' F' N'); (try dsimp only); (try k_sweep)))
  k_with "call ref" => (k_here; k_dflt ((refine' Spec.useB (isnum_bytes _ _ _) ?zqk1 ?zqk2 ?zqk3 ?zqk4 ?zqk5 ?zqkK ?zqkP ?zqkd ?zqku ?_; (case zqk1 => k_asm); (case zqk2 => k_asm); (case zqk3 => k_asm); (case zqk4 => k_asm); (case zqk5 => k_asm); (case zqkK => first | exact rfl | assumption); (case zqkP => trivial); (case zqkd => walk_at "KD"); (case zqku => walk_at "KU"); k_whole; intro h' tk' F' N'); (try dsimp only); (try k_sweep)))
  exact trivial
set_option maxRecDepth 100000 in
set_option maxHeartbeats 8000000 in
theorem arrix_int (w : World) (i : Int) (t : Tok) : Spec w 188 [.int i t] 6 Any (SameI i) := by
  unfold Spec
  k_fill
  intro mean mg mb dp un gd cn cs a ccd cl outer A₀ base h₀ L m news s Q E B F X N TP hk hP hd hu hret
  w_top on
  w_on
  k_steps
  all_goals first | exact hret _ _ _ _ (by k_asm) (by first | k_asm | exact News.tl (by k_asm) | exact News.tl (News.tl (by k_asm)) | exact News.tl (News.tl (News.tl (by k_asm)))) ⟨rfl, _, rfl⟩ | skip
set_option maxRecDepth 100000 in
set_option maxHeartbeats 8000000 in
theorem arrix_bytes (w : World) (i : Array UInt8) (t : Tok) : Spec w 188 [.bytes i t] 6 Any (SameI (-1)) := by
  unfold Spec
  k_fill
  intro mean mg mb dp un gd cn cs a ccd cl outer A₀ base h₀ L m news s Q E B F X N TP hk hP hd hu hret
  w_top on
  w_on
  k_steps
  all_goals first | exact hret _ _ _ _ (by k_asm) (by first | k_asm | exact News.tl (by k_asm) | exact News.tl (News.tl (by k_asm)) | exact News.tl (News.tl (News.tl (by k_asm)))) ⟨rfl, _, rfl⟩ | skip

end
section
theorem wd_P2_0 : True := by
  k_with_none
  exact trivial
theorem wd_P2_3 : True := by
  k_with "KD" => first | exact dlt (by assumption) (by first | decide | omega) | exact dlt1 (by assumption) (by first | decide | omega) | exact dlt0 (by assumption) | ktr_room
  k_with "KU" => first | exact ult (by assumption) (by first | decide | omega) | ktr_units
  k_with "ENTER" => (refine' enter_ ?zqk1 ?zqk2 ?zqk3 ?zqk4 ?zqk5 ?zqkA ?zqkF ?zqkK ?zqk6 ?zqk7 ?zqk8 ?zqk9 ?zqkB ?_ ?zqc2 ?zqc3 ?zqc4 ?zqc5; (case zqkA => exact rfl); (case zqkF => exact rfl); (case zqkK => first | exact rfl | assumption); (case zqk1 => k_asm); (case zqk2 => k_asm); (case zqk3 => k_asm); (case zqk4 => k_asm); (case zqk5 => k_asm); (case zqk6 => k_is); (case zqk7 => k_is); (case zqk8 => walk_at "KD"); (case zqk9 => first | exact BindsTo.of_eq rfl | exact binds_K (by k_in) rfl (by k_is) rfl rfl rfl | fail "ENTER: no rule for these arguments"); (case zqc5 => decide); (case zqkB => exact locs rfl); (case zqc2 => exact rfl); (case zqc3 => exact rfl); (case zqc4 => exact rfl); k_whole; intro g' L' h' tk' FG' mm F' N' B' X' T' qk ek)
  k_with "call ref" => (k_here; k_dflt (first | (refine' call_cls0 ?zqk1 ?zqk2 ?zqk3 ?zqk4 ?zqk5 ?_; (case zqk1 => k_asm); (case zqk2 => k_asm); (case zqk3 => k_asm); (case zqk4 => k_is); (case zqk5 => k_is); k_whole; intro x' d' h' F' N' l1 l2; (try k_lt l1); (try k_lt2 l2); (try k_sweep)) | (refine' call_cls ?zqk1 ?zqk2 ?zqk3 ?zqk4 ?zqk5 ?zqk6 ?_; (case zqk1 => k_asm); (case zqk2 => k_asm); (case zqk3 => k_asm); (case zqk4 => k_is); (case zqk5 => k_is); (case zqk6 => k_is); k_whole; intro x' d' h' F' N' l1 l2; (try k_lt l1); (try k_lt2 l2); (try k_sweep); walk_at "ENTER") | (refine' call_meth ?zqk1 ?zqk2 ?_; (case zqk1 => k_asm); (case zqk2 => k_mem); k_whole; walk_at "ENTER") | (refine wpAny_call ?_; walk_at "ENTER")))
  k_with "call builtin:len" => (k_here; (with_reducible show wpAny _ _ (call (Value.builtin "len") [Value.ref _]) _ _ _); k_dflt (refine' kst_len ?zqk1 ?zqk2 ?zqk3 ?zqk4 ?_; (case zqk1 => k_asm); (case zqk2 => k_mem); (case zqk3 => first | assumption | exact rfl); (case zqk4 => omega); k_whole))
  k_with "WhileStep2" => (first | (with_reducible show WhileStep2 _ _ _ _ _ _ (Flow.ret _) _) | (with_reducible show WhileStep2 _ _ _ _ _ _ Flow.brk _)); (dsimp only [WhileStep2])
  k_with "execs cons" => (k_here; refine wpAny_execs_cons (foldQ ?_); intro qs)
  k_with "storeName" => (k_here; (try dsimp only); k_dflt (refine' store_ ?zqF ?zqN ?_ ?zqa ?zqb; (case zqF => k_asm); (case zqN => k_asm); (case zqa => first | exact rfl | assumption); (case zqb => rfl); k_whole; intro h' tk' mm F' N'; (try k_sweep)))
  k_with "exec While Compare cons nil" => refine Halt.go ?_
  k_with "pyIter ref" => refine Halt.go ?_
  k_with "call type:enumerate" => refine Halt.go ?_
  k_with "KswEnd" => refine Halt.at (k := "KswEnd") (by assumption) ?_
  k_with "subscriptTail" => refine Halt.at (k := "subscriptTail") (by assumption) ?_
  k_with "eval ListComp" => refine Halt.at (k := "eval ListComp") (by assumption) ?_
  k_with "CompSrc" => refine Halt.at (k := "CompSrc") (by assumption) ?_
  k_with "CompEnd" => refine Halt.at (k := "CompEnd") (by assumption) ?_
  k_with "call ref" => refine Halt.at (k := "call ref") (by assumption) ?_
  k_with "call builtin:sorted" => refine Halt.at (k := "call builtin:sorted") (by assumption) ?_
  k_with "call builtin:repr" => refine Halt.at (k := "call builtin:repr") (by assumption) ?_
  k_with "unpackItems ref" => refine Halt.at (k := "unpackItems ref") (by assumption) ?_
  k_with "compareOp Eq ref ref" => refine Halt.at (k := "compareOp Eq ref ref") (by assumption) ?_
  k_with "call type:str" => refine Halt.at (k := "call type:str") (by assumption) ?_
  exact trivial

set_option maxRecDepth 100000 in
set_option maxHeartbeats 8000000 in
theorem tyof_none (w : World) : Spec w 97 [.none] 5 Any (SameI 0) := by
  unfold Spec
  k_fill
  intro mean mg mb dp un gd cn cs a ccd cl outer A₀ base h₀ L m news s Q E B F X N TP hk hP hd hu hret
  w_top on
  w_on
  k_steps
  all_goals first | exact hret _ _ _ _ (by k_asm) (by first | k_asm | exact News.tl (by k_asm) | exact News.tl (News.tl (by k_asm)) | exact News.tl (News.tl (News.tl (by k_asm)))) ⟨rfl, _, rfl⟩ | skip
set_option maxRecDepth 100000 in
set_option maxHeartbeats 8000000 in
theorem tyof_int (w : World) (i : Int) (t : Tok) : Spec w 97 [.int i t] 5 Any (SameI 3) := by
  unfold Spec
  k_fill
  intro mean mg mb dp un gd cn cs a ccd cl outer A₀ base h₀ L m news s Q E B F X N TP hk hP hd hu hret
  w_top on
  w_on
  k_steps
  all_goals first | exact hret _ _ _ _ (by k_asm) (by first | k_asm | exact News.tl (by k_asm) | exact News.tl (News.tl (by k_asm)) | exact News.tl (News.tl (News.tl (by k_asm)))) ⟨rfl, _, rfl⟩ | skip
set_option maxRecDepth 100000 in
set_option maxHeartbeats 8000000 in
theorem tyof_bytes (w : World) (i : Array UInt8) (t : Tok) : Spec w 97 [.bytes i t] 5 Any (SameI 4) := by
  unfold Spec
  k_fill
  intro mean mg mb dp un gd cn cs a ccd cl outer A₀ base h₀ L m news s Q E B F X N TP hk hP hd hu hret
  w_top on
  w_on
  k_steps
  all_goals first | exact hret _ _ _ _ (by k_asm) (by first | k_asm | exact News.tl (by k_asm) | exact News.tl (News.tl (by k_asm)) | exact News.tl (News.tl (News.tl (by k_asm)))) ⟨rfl, _, rfl⟩ | skip
theorem wd_P2_4 : True := by
  k_with "call ref" => (k_here; k_dflt ((refine' Spec.useI (tyof_none _) ?zqk1 ?zqk2 ?zqk3 ?zqk4 ?zqk5 ?zqkK ?zqkP ?zqkd ?zqku ?_; (case zqk1 => k_asm); (case zqk2 => k_asm); (case zqk3 => k_asm); (case zqk4 => k_asm); (case zqk5 => k_asm); (case zqkK => first | exact rfl | assumption); (case zqkP => trivial); (case zqkd => walk_at "KD"); (case zqku => walk_at "KU"); k_whole; intro t1 h' tk' F' N'); (try dsimp only); (try k_sweep)))
  k_with "call ref" => (k_here; k_dflt ((refine' Spec.useI (tyof_int _ _ _) ?zqk1 ?zqk2 ?zqk3 ?zqk4 ?zqk5 ?zqkK ?zqkP ?zqkd ?zqku ?_; (case zqk1 => k_asm); (case zqk2 => k_asm); (case zqk3 => k_asm); (case zqk4 => k_asm); (case zqk5 => k_asm); (case zqkK => first | exact rfl | assumption); (case zqkP => trivial); (case zqkd => walk_at "KD"); (case zqku => walk_at "KU"); k_whole; intro t1 h' tk' F' N'); (try dsimp only); (try k_sweep)))
  k_with "call ref" => (k_here; k_dflt ((refine' Spec.useI (tyof_bytes _ _ _) ?zqk1 ?zqk2 ?zqk3 ?zqk4 ?zqk5 ?zqkK ?zqkP ?zqkd ?zqku ?_; (case zqk1 => k_asm); (case zqk2 => k_asm); (case zqk3 => k_asm); (case zqk4 => k_asm); (case zqk5 => k_asm); (case zqkK => first | exact rfl | assumption); (case zqkP => trivial); (case zqkd => walk_at "KD"); (case zqku => walk_at "KU"); k_whole; intro t1 h' tk' F' N'); (try dsimp only); (try k_sweep)))
  exact trivial
set_option maxRecDepth 100000 in
set_option maxHeartbeats 8000000 in
theorem raweq_none_int (w : World) (i : Int) (t : Tok) : Spec w 111 [.none, .int i t] 7 Any (SameB false) := by
  unfold Spec
  k_fill
  intro mean mg mb dp un gd cn cs a ccd cl outer A₀ base h₀ L m news s Q E B F X N TP hk hP hd hu hret
  w_top on
  w_on
  k_steps
  all_goals first | exact hret _ _ _ _ (by k_asm) (by first | k_asm | exact News.tl (by k_asm) | exact News.tl (News.tl (by k_asm)) | exact News.tl (News.tl (News.tl (by k_asm)))) ⟨rfl, rfl⟩ | skip
set_option maxRecDepth 100000 in
set_option maxHeartbeats 8000000 in
theorem raweq_none_bytes (w : World) (i : Array UInt8) (t : Tok) : Spec w 111 [.none, .bytes i t] 7 Any (SameB false) := by
  unfold Spec
  k_fill
  intro mean mg mb dp un gd cn cs a ccd cl outer A₀ base h₀ L m news s Q E B F X N TP hk hP hd hu hret
  w_top on
  w_on
  k_steps
  all_goals first | exact hret _ _ _ _ (by k_asm) (by first | k_asm | exact News.tl (by k_asm) | exact News.tl (News.tl (by k_asm)) | exact News.tl (News.tl (News.tl (by k_asm)))) ⟨rfl, rfl⟩ | skip
set_option maxRecDepth 100000 in
set_option maxHeartbeats 8000000 in
theorem raweq_int_bytes (w : World) (j : Int) (u : Tok) (i : Array UInt8) (t : Tok) : Spec w 111 [.int j u, .bytes i t] 7 Any (SameB false) := by
  unfold Spec
  k_fill
  intro mean mg mb dp un gd cn cs a ccd cl outer A₀ base h₀ L m news s Q E B F X N TP hk hP hd hu hret
  w_top on
  w_on
  k_steps
  all_goals first | exact hret _ _ _ _ (by k_asm) (by first | k_asm | exact News.tl (by k_asm) | exact News.tl (News.tl (by k_asm)) | exact News.tl (News.tl (News.tl (by k_asm)))) ⟨rfl, rfl⟩ | skip
set_option maxRecDepth 100000 in
set_option maxHeartbeats 8000000 in
theorem raweq_bytes_int (w : World) (j : Int) (u : Tok) (i : Array UInt8) (t : Tok) : Spec w 111 [.bytes i t, .int j u] 7 Any (SameB false) := by
  unfold Spec
  k_fill
  intro mean mg mb dp un gd cn cs a ccd cl outer A₀ base h₀ L m news s Q E B F X N TP hk hP hd hu hret
  w_top on
  w_on
  k_steps
  all_goals first | exact hret _ _ _ _ (by k_asm) (by first | k_asm | exact News.tl (by k_asm) | exact News.tl (News.tl (by k_asm)) | exact News.tl (News.tl (News.tl (by k_asm)))) ⟨rfl, rfl⟩ | skip
set_option maxRecDepth 100000 in
set_option maxHeartbeats 8000000 in
theorem raweq_int_int (w : World) (j : Int) (u : Tok) (i : Int) (t : Tok) : Spec w 111 [.int j u, .int i t] 7 Any (SameB (j == i)) := by
  unfold Spec
  k_fill
  intro mean mg mb dp un gd cn cs a ccd cl outer A₀ base h₀ L m news s Q E B F X N TP hk hP hd hu hret
  w_top on
  w_on
  k_steps
  all_goals first | exact hret _ _ _ _ (by k_asm) (by first | k_asm | exact News.tl (by k_asm) | exact News.tl (News.tl (by k_asm)) | exact News.tl (News.tl (News.tl (by k_asm)))) ⟨rfl, rfl⟩ | skip
set_option maxRecDepth 100000 in
set_option maxHeartbeats 8000000 in
theorem raweq_bytes_bytes (w : World) (j : Array UInt8) (u : Tok) (i : Array UInt8) (t : Tok) : Spec w 111 [.bytes j u, .bytes i t] 7 Any (SameB (j.toList == i.toList)) := by
  unfold Spec
  k_fill
  intro mean mg mb dp un gd cn cs a ccd cl outer A₀ base h₀ L m news s Q E B F X N TP hk hP hd hu hret
  w_top on
  w_on
  k_steps
  all_goals first | exact hret _ _ _ _ (by k_asm) (by first | k_asm | exact News.tl (by k_asm) | exact News.tl (News.tl (by k_asm)) | exact News.tl (News.tl (News.tl (by k_asm)))) ⟨rfl, rfl⟩ | skip

end
section
theorem wd_P3_0 : True := by
  k_with_none
  exact trivial
theorem wd_P3_5 : True := by
  k_with "KD" => first | exact dlt (by assumption) (by first | decide | omega) | exact dlt1 (by assumption) (by first | decide | omega) | exact dlt0 (by assumption) | ktr_room
  k_with "KU" => first | exact ult (by assumption) (by first | decide | omega) | ktr_units
  k_with "ENTER" => (refine' enter_ ?zqk1 ?zqk2 ?zqk3 ?zqk4 ?zqk5 ?zqkA ?zqkF ?zqkK ?zqk6 ?zqk7 ?zqk8 ?zqk9 ?zqkB ?_ ?zqc2 ?zqc3 ?zqc4 ?zqc5; (case zqkA => exact rfl); (case zqkF => exact rfl); (case zqkK => first | exact rfl | assumption); (case zqk1 => k_asm); (case zqk2 => k_asm); (case zqk3 => k_asm); (case zqk4 => k_asm); (case zqk5 => k_asm); (case zqk6 => k_is); (case zqk7 => k_is); (case zqk8 => walk_at "KD"); (case zqk9 => first | exact BindsTo.of_eq rfl | exact binds_K (by k_in) rfl (by k_is) rfl rfl rfl | fail "ENTER: no rule for these arguments"); (case zqc5 => decide); (case zqkB => exact locs rfl); (case zqc2 => exact rfl); (case zqc3 => exact rfl); (case zqc4 => exact rfl); k_whole; intro g' L' h' tk' FG' mm F' N' B' X' T' qk ek)
  k_with "call ref" => (k_here; k_dflt (first | (refine' call_cls0 ?zqk1 ?zqk2 ?zqk3 ?zqk4 ?zqk5 ?_; (case zqk1 => k_asm); (case zqk2 => k_asm); (case zqk3 => k_asm); (case zqk4 => k_is); (case zqk5 => k_is); k_whole; intro x' d' h' F' N' l1 l2; (try k_lt l1); (try k_lt2 l2); (try k_sweep)) | (refine' call_cls ?zqk1 ?zqk2 ?zqk3 ?zqk4 ?zqk5 ?zqk6 ?_; (case zqk1 => k_asm); (case zqk2 => k_asm); (case zqk3 => k_asm); (case zqk4 => k_is); (case zqk5 => k_is); (case zqk6 => k_is); k_whole; intro x' d' h' F' N' l1 l2; (try k_lt l1); (try k_lt2 l2); (try k_sweep); walk_at "ENTER") | (refine' call_meth ?zqk1 ?zqk2 ?_; (case zqk1 => k_asm); (case zqk2 => k_mem); k_whole; walk_at "ENTER") | (refine wpAny_call ?_; walk_at "ENTER")))
  k_with "call builtin:len" => (k_here; (with_reducible show wpAny _ _ (call (Value.builtin "len") [Value.ref _]) _ _ _); k_dflt (refine' kst_len ?zqk1 ?zqk2 ?zqk3 ?zqk4 ?_; (case zqk1 => k_asm); (case zqk2 => k_mem); (case zqk3 => first | assumption | exact rfl); (case zqk4 => omega); k_whole))
  k_with "WhileStep2" => (first | (with_reducible show WhileStep2 _ _ _ _ _ _ (Flow.ret _) _) | (with_reducible show WhileStep2 _ _ _ _ _ _ Flow.brk _)); (dsimp only [WhileStep2])
  k_with "execs cons" => (k_here; refine wpAny_execs_cons (foldQ ?_); intro qs)
  k_with "storeName" => (k_here; (try dsimp only); k_dflt (refine' store_ ?zqF ?zqN ?_ ?zqa ?zqb; (case zqF => k_asm); (case zqN => k_asm); (case zqa => first | exact rfl | assumption); (case zqb => rfl); k_whole; intro h' tk' mm F' N'; (try k_sweep)))
  k_with "exec While Compare cons nil" => refine Halt.go ?_
  k_with "pyIter ref" => refine Halt.go ?_
  k_with "call type:enumerate" => refine Halt.go ?_
  k_with "KswEnd" => refine Halt.at (k := "KswEnd") (by assumption) ?_
  k_with "subscriptTail" => refine Halt.at (k := "subscriptTail") (by assumption) ?_
  k_with "eval ListComp" => refine Halt.at (k := "eval ListComp") (by assumption) ?_
  k_with "CompSrc" => refine Halt.at (k := "CompSrc") (by assumption) ?_
  k_with "CompEnd" => refine Halt.at (k := "CompEnd") (by assumption) ?_
  k_with "call ref" => refine Halt.at (k := "call ref") (by assumption) ?_
  k_with "call builtin:sorted" => refine Halt.at (k := "call builtin:sorted") (by assumption) ?_
  k_with "call builtin:repr" => refine Halt.at (k := "call builtin:repr") (by assumption) ?_
  k_with "unpackItems ref" => refine Halt.at (k := "unpackItems ref") (by assumption) ?_
  k_with "compareOp Eq ref ref" => refine Halt.at (k := "compareOp Eq ref ref") (by assumption) ?_
  k_with "call type:str" => refine Halt.at (k := "call type:str") (by assumption) ?_
  exact trivial

noncomputable def log2P (n : Nat) : Int := if n = 0 then -1 else (Nat.log2 n : Int)
theorem log2P_half (n : Nat) (h : 0 < n) : log2P n = log2P (n / 2) + 1 := by
  unfold log2P
  rw [if_neg (by omega)]
  by_cases h2 : n / 2 = 0
  · have : n = 1 := by omega
    subst this; decide
  · rw [if_neg h2, Nat.log2_def n, if_pos (by omega)]
    omega
theorem shr1 (n : Nat) : (n : Int).fdiv (2 ^ Int.toNat 1) = ((n / 2 : Nat) : Int) := by
  rw [show ((2:Int) ^ Int.toNat 1) = 2 from rfl, Int.fdiv_eq_ediv_of_nonneg _ (by omega)]; omega
set_option maxRecDepth 100000 in
set_option maxHeartbeats 8000000 in
theorem log2_spec (w : World) (i : Int) (t : Tok) (h0 : 0 ≤ i) (hn : i < 2 ^ 62) : Spec w 125 [.int i t] 3 Any (SameI (log2P i.toNat)) := by
  unfold Spec
  k_fill
  intro mean mg mb dp un gd cn cs a ccd cl outer A₀ base h₀ L m news s Q E B F X N TP hk hP hd hu hret
  w_top on
  w_on
  k_steps
  constructor
  (rename Fr _ _ _ _ => lF); (rename News _ _ _ _ => lN)
  (with_unfolding_all refine' ksw_while (σ := Int × Int × Tok × Tok) (fun _ => _) (fun c => [(Str.ofString "n", .int c.1 c.2.2.1), (Str.ofString "found", .int c.2.1 c.2.2.2)]) (fun _ => True) [] (fun c => ∃ k : Nat, c.1 = k ∧ k < 2 ^ 62 ∧ c.2.1 + log2P k + 1 = log2P i.toNat) (fun c => c.1.toNat) (i, -1, t, _) lF lN trivial ?hk ?hp ?turn)
  case hk => (intro p hp; simp only [List.mem_cons, List.not_mem_nil, or_false] at hp; rcases hp with rfl | rfl <;> rfl)
  case hp => exact ⟨i.toNat, by dsimp only; omega, by omega, by dsimp only; omega⟩
  clear lF lN; refine all4 ?_; rintro c f tc tf u h tk hf ⟨k, hck, hkl, he⟩ F N; dsimp only at hck; subst hck; dsimp only at he
  k_fold
  k_steps
  · refine ksw_end ⟨_, _, _, _⟩ (by assumption) (by assumption) (by kst_in) (by kst_facts) (by kst_all) ?hr ?hp ?hm
    · (first | (intro z h2 h3; have h4 := ne_true_of_eq_false h3; simp only [List.forall_mem_cons, List.not_mem_nil, false_implies, implies_true, and_true, ne_eq] at h2; (try simp only [List.contains_cons, List.contains_nil, Bool.or_false, Bool.or_eq_false_iff, beq_eq_false_iff_ne, ne_eq] at h3); (repeat first | with_reducible rfl | (refine Eq.trans (kstB_ne ?zqs) ?_; (case zqs => first | exact h2 | exact h2.1 | exact h2.2 | exact h2.2.1 | exact h2.2.2 | exact h2.2.2.1 | exact h2.2.2.2 | exact h3 | exact h3.1 | exact h3.2 | exact h3.2.1 | exact h3.2.2 | exact h4)) | (refine Eq.trans (kstB_nil _ _) ?_) | (refine Eq.trans (if_neg ?zqs) ?_; (case zqs => first | exact h2 | exact h2.1 | exact h2.2 | exact h2.2.1 | exact h2.2.2 | exact h2.2.2.1 | exact h2.2.2.2 | exact h3 | exact h3.1 | exact h3.2 | exact h3.2.1 | exact h3.2.2 | exact h4))); done) | (intro z h2 h3; simp only [List.forall_mem_cons, List.not_mem_nil, false_implies, implies_true, and_true, ne_eq] at h2; (try simp only [List.contains_cons, List.contains_nil, Bool.or_false, Bool.or_eq_false_iff, beq_eq_false_iff_ne, ne_eq] at h3); simp +zetaDelta [kstB, h2, h3]))
    · have h0 : (k : Int) > 0 := by assumption
      refine ⟨k / 2, shr1 k, by omega, ?_⟩
      have := log2P_half k (by omega)
      dsimp only
      omega
    · have h0 : (k : Int) > 0 := by assumption
      dsimp only
      rw [shr1]; omega
  · have h0 : ¬ (k : Int) > 0 := by assumption
    have hk0 : k = 0 := by omega
    subst hk0
    have e9 : f = log2P i.toNat := by have : log2P 0 = -1 := rfl; omega
    subst e9
    all_goals first | exact hret _ _ _ _ (by k_asm) (by first | k_asm | exact News.tl (by k_asm) | exact News.tl (News.tl (by k_asm)) | exact News.tl (News.tl (News.tl (by k_asm)))) ⟨rfl, _, rfl⟩ | skip
theorem wd_P3_6 : True := by
  k_with "call ref" => (k_here; k_dflt ((refine' Spec.useI (log2_spec _ _ _ (by first | assumption | omega) (by first | assumption | omega)) ?zqk1 ?zqk2 ?zqk3 ?zqk4 ?zqk5 ?zqkK ?zqkP ?zqkd ?zqku ?_; (case zqk1 => k_asm); (case zqk2 => k_asm); (case zqk3 => k_asm); (case zqk4 => k_asm); (case zqk5 => k_asm); (case zqkK => first | exact rfl | assumption); (case zqkP => trivial); (case zqkd => walk_at "KD"); (case zqku => walk_at "KU"); k_whole; intro t1 h' tk' F' N'); (try dsimp only); (try k_sweep)))
  exact trivial
set_option maxRecDepth 100000 in
set_option maxHeartbeats 8000000 in
theorem ceil_log2_spec (w : World) (i : Int) (t : Tok) (h1 : 1 ≤ i) (hn : i < 2 ^ 62) : Spec w 132 [.int i t] 6 Any (SameI (log2P (i - 1).toNat + 1)) := by
  unfold Spec
  k_fill
  intro mean mg mb dp un gd cn cs a ccd cl outer A₀ base h₀ L m news s Q E B F X N TP hk hP hd hu hret
  w_top on
  w_on
  k_steps
  all_goals first | exact hret _ _ _ _ (by k_asm) (by first | k_asm | exact News.tl (by k_asm) | exact News.tl (News.tl (by k_asm)) | exact News.tl (News.tl (News.tl (by k_asm)))) ⟨rfl, _, rfl⟩ | skip

end
section
theorem wd_P4_0 : True := by
  k_with_none
  exact trivial
theorem wd_P4_7 : True := by
  k_with "KD" => first | exact dlt (by assumption) (by first | decide | omega) | exact dlt1 (by assumption) (by first | decide | omega) | exact dlt0 (by assumption) | ktr_room
  k_with "KU" => first | exact ult (by assumption) (by first | decide | omega) | ktr_units
  k_with "ENTER" => (refine' enter_ ?zqk1 ?zqk2 ?zqk3 ?zqk4 ?zqk5 ?zqkA ?zqkF ?zqkK ?zqk6 ?zqk7 ?zqk8 ?zqk9 ?zqkB ?_ ?zqc2 ?zqc3 ?zqc4 ?zqc5; (case zqkA => exact rfl); (case zqkF => exact rfl); (case zqkK => first | exact rfl | assumption); (case zqk1 => k_asm); (case zqk2 => k_asm); (case zqk3 => k_asm); (case zqk4 => k_asm); (case zqk5 => k_asm); (case zqk6 => k_is); (case zqk7 => k_is); (case zqk8 => walk_at "KD"); (case zqk9 => first | exact BindsTo.of_eq rfl | exact binds_K (by k_in) rfl (by k_is) rfl rfl rfl | fail "ENTER: no rule for these arguments"); (case zqc5 => decide); (case zqkB => exact locs rfl); (case zqc2 => exact rfl); (case zqc3 => exact rfl); (case zqc4 => exact rfl); k_whole; intro g' L' h' tk' FG' mm F' N' B' X' T' qk ek)
  k_with "call ref" => (k_here; k_dflt (first | (refine' call_cls0 ?zqk1 ?zqk2 ?zqk3 ?zqk4 ?zqk5 ?_; (case zqk1 => k_asm); (case zqk2 => k_asm); (case zqk3 => k_asm); (case zqk4 => k_is); (case zqk5 => k_is); k_whole; intro x' d' h' F' N' l1 l2; (try k_lt l1); (try k_lt2 l2); (try k_sweep)) | (refine' call_cls ?zqk1 ?zqk2 ?zqk3 ?zqk4 ?zqk5 ?zqk6 ?_; (case zqk1 => k_asm); (case zqk2 => k_asm); (case zqk3 => k_asm); (case zqk4 => k_is); (case zqk5 => k_is); (case zqk6 => k_is); k_whole; intro x' d' h' F' N' l1 l2; (try k_lt l1); (try k_lt2 l2); (try k_sweep); walk_at "ENTER") | (refine' call_meth ?zqk1 ?zqk2 ?_; (case zqk1 => k_asm); (case zqk2 => k_mem); k_whole; walk_at "ENTER") | (refine wpAny_call ?_; walk_at "ENTER")))
  k_with "call builtin:len" => (k_here; (with_reducible show wpAny _ _ (call (Value.builtin "len") [Value.ref _]) _ _ _); k_dflt (refine' kst_len ?zqk1 ?zqk2 ?zqk3 ?zqk4 ?_; (case zqk1 => k_asm); (case zqk2 => k_mem); (case zqk3 => first | assumption | exact rfl); (case zqk4 => omega); k_whole))
  k_with "WhileStep2" => (first | (with_reducible show WhileStep2 _ _ _ _ _ _ (Flow.ret _) _) | (with_reducible show WhileStep2 _ _ _ _ _ _ Flow.brk _)); (dsimp only [WhileStep2])
  k_with "execs cons" => (k_here; refine wpAny_execs_cons (foldQ ?_); intro qs)
  k_with "storeName" => (k_here; (try dsimp only); k_dflt (refine' store_ ?zqF ?zqN ?_ ?zqa ?zqb; (case zqF => k_asm); (case zqN => k_asm); (case zqa => first | exact rfl | assumption); (case zqb => rfl); k_whole; intro h' tk' mm F' N'; (try k_sweep)))
  k_with "exec While Compare cons nil" => refine Halt.go ?_
  k_with "pyIter ref" => refine Halt.go ?_
  k_with "call type:enumerate" => refine Halt.go ?_
  k_with "KswEnd" => refine Halt.at (k := "KswEnd") (by assumption) ?_
  k_with "subscriptTail" => refine Halt.at (k := "subscriptTail") (by assumption) ?_
  k_with "eval ListComp" => refine Halt.at (k := "eval ListComp") (by assumption) ?_
  k_with "CompSrc" => refine Halt.at (k := "CompSrc") (by assumption) ?_
  k_with "CompEnd" => refine Halt.at (k := "CompEnd") (by assumption) ?_
  k_with "call ref" => refine Halt.at (k := "call ref") (by assumption) ?_
  k_with "call builtin:sorted" => refine Halt.at (k := "call builtin:sorted") (by assumption) ?_
  k_with "call builtin:repr" => refine Halt.at (k := "call builtin:repr") (by assumption) ?_
  k_with "unpackItems ref" => refine Halt.at (k := "unpackItems ref") (by assumption) ?_
  k_with "compareOp Eq ref ref" => refine Halt.at (k := "compareOp Eq ref ref") (by assumption) ?_
  k_with "call type:str" => refine Halt.at (k := "call type:str") (by assumption) ?_
  exact trivial

theorem bitAnd_le {x y : Int} (hy : 0 ≤ y) : 0 ≤ Builtin.bitAnd x y ∧ Builtin.bitAnd x y ≤ y := by
  by_cases hx : 0 ≤ x
  · rw [bitAnd_pp hx hy]
    have := Nat.and_le_right (n := x.toNat) (m := y.toNat)
    omega
  · rw [bitAnd_np hx hy]
    have := Nat.and_le_left (n := y.toNat) (m := (Builtin.bitNot x).toNat)
    omega
noncomputable def hstep (f : Int) (c : UInt8) : Int := Builtin.bitAnd (Builtin.bitXor f (f * 2 ^ Int.toNat 5 + f.fdiv (2 ^ Int.toNat 2) + ((c.toNat : Nat) : Int))) 4294967295
noncomputable def hash2 (x y : UInt8) : Int := hstep (hstep (Builtin.bitAnd 2 4294967295) y) x
theorem hstep_le (f : Int) (c : UInt8) : 0 ≤ hstep f c ∧ hstep f c ≤ 4294967295 := bitAnd_le (by decide)
set_option maxRecDepth 100000 in
set_option maxHeartbeats 8000000 in
theorem shash_spec (w : World) (x y : UInt8) (t : Tok) : Spec w 118 [.bytes #[x, y] t] 3 Any (SameI (hash2 x y)) := by
  unfold Spec
  k_fill
  intro mean mg mb dp un gd cn cs a ccd cl outer A₀ base h₀ L m news s Q E B F X N TP hk hP hd hu hret
  w_top on
  w_on
  k_steps
  constructor
  (rename Fr _ _ _ _ => lF); (rename News _ _ _ _ => lN)
  (with_unfolding_all refine' ksw_while (σ := Int × Int × Tok × Tok × Tok) (fun _ => _) (fun c => [(Str.ofString "found", .int c.1 c.2.2.1), (Str.ofString "at", .int c.2.1 c.2.2.2.1), (Str.ofString "step", .int (((2:Nat) : Int).fdiv (2 ^ Int.toNat 5) + 1) c.2.2.2.2)]) (fun _ => True) [] (fun c => 0 ≤ c.1 ∧ c.1 < 4294967296 ∧ 0 ≤ c.2.1 ∧ c.2.1 ≤ 2 ∧ (c.2.1 = 2 → c.1 = Builtin.bitAnd 2 4294967295) ∧ (c.2.1 = 1 → c.1 = hstep (Builtin.bitAnd 2 4294967295) y) ∧ (c.2.1 = 0 → c.1 = hash2 x y)) (fun c => c.2.1.toNat) (_, 2, _, _, _) lF lN trivial ?hk ?hp ?turn)
  case hk => (intro p hp; simp only [List.mem_cons, List.not_mem_nil, or_false] at hp; rcases hp with rfl | rfl | rfl <;> rfl)
  case hp => exact ⟨by show 0 ≤ Builtin.bitAnd 2 4294967295; decide, by show Builtin.bitAnd 2 4294967295 < _; decide, by show (0:Int) ≤ 2; decide, by show (2:Int) ≤ 2; decide, fun _ => rfl, fun h => absurd (show (2:Int) = 1 from h) (by decide), fun h => absurd (show (2:Int) = 0 from h) (by decide)⟩
  clear lF lN; refine all5 ?_; rintro f at1 tf ta ts u h tk hf ⟨hc1, hc2, hc3, hc4, hc5, hc6, hc7⟩ F N; dsimp only at hc1 hc2 hc3 hc4 hc5 hc6 hc7
  rw [show (((2:Nat) : Int).fdiv (2 ^ Int.toNat 5) + 1) = 1 by decide] at F
  k_fold
  k_steps
  · have h0 : at1 ≥ 1 := by assumption
    refine ksw_end ⟨hstep f ([x, y].getD (at1 - 1).toNat 0), at1 - 1, _, _, _⟩ (by assumption) (by assumption) (by kst_in) (by kst_facts) (by kst_all) ?hr ?hp ?hm
    · (first | (intro z h2 h3; have h4 := ne_true_of_eq_false h3; simp only [List.forall_mem_cons, List.not_mem_nil, false_implies, implies_true, and_true, ne_eq] at h2; (try simp only [List.contains_cons, List.contains_nil, Bool.or_false, Bool.or_eq_false_iff, beq_eq_false_iff_ne, ne_eq] at h3); (repeat first | with_reducible rfl | (refine Eq.trans (kstB_ne ?zqs) ?_; (case zqs => first | exact h2 | exact h2.1 | exact h2.2 | exact h2.2.1 | exact h2.2.2 | exact h2.2.2.1 | exact h2.2.2.2 | exact h3 | exact h3.1 | exact h3.2 | exact h3.2.1 | exact h3.2.2 | exact h4)) | (refine Eq.trans (kstB_nil _ _) ?_) | (refine Eq.trans (if_neg ?zqs) ?_; (case zqs => first | exact h2 | exact h2.1 | exact h2.2 | exact h2.2.1 | exact h2.2.2 | exact h2.2.2.1 | exact h2.2.2.2 | exact h3 | exact h3.1 | exact h3.2 | exact h3.2.1 | exact h3.2.2 | exact h4))); done) | (intro z h2 h3; simp only [List.forall_mem_cons, List.not_mem_nil, false_implies, implies_true, and_true, ne_eq] at h2; (try simp only [List.contains_cons, List.contains_nil, Bool.or_false, Bool.or_eq_false_iff, beq_eq_false_iff_ne, ne_eq] at h3); simp +zetaDelta [kstB, h2, h3]))
    · dsimp only
      have hb := hstep_le f ([x, y].getD (at1 - 1).toNat 0)
      refine ⟨hb.1, by omega, by omega, by omega, fun e => by omega, fun e => ?_, fun e => ?_⟩
      · have e2 : at1 = 2 := by omega
        subst e2; rw [hc5 rfl]; rfl
      · have e2 : at1 = 1 := by omega
        subst e2; rw [hc6 rfl]; rfl
    · dsimp only; omega
  · have h0 : ¬ at1 ≥ 1 := by assumption
    have e9 : f = hash2 x y := hc7 (by omega)
    subst e9
    all_goals first | exact hret _ _ _ _ (by k_asm) (by first | k_asm | exact News.tl (by k_asm) | exact News.tl (News.tl (by k_asm)) | exact News.tl (News.tl (News.tl (by k_asm)))) ⟨rfl, _, rfl⟩ | skip

end
section
theorem wd_P5_0 : True := by
  k_with_none
  exact trivial
theorem wd_P5_8 : True := by
  k_with "KD" => first | exact dlt (by assumption) (by first | decide | omega) | exact dlt1 (by assumption) (by first | decide | omega) | exact dlt0 (by assumption) | ktr_room
  k_with "KU" => first | exact ult (by assumption) (by first | decide | omega) | ktr_units
  k_with "ENTER" => (refine' enter_ ?zqk1 ?zqk2 ?zqk3 ?zqk4 ?zqk5 ?zqkA ?zqkF ?zqkK ?zqk6 ?zqk7 ?zqk8 ?zqk9 ?zqkB ?_ ?zqc2 ?zqc3 ?zqc4 ?zqc5; (case zqkA => exact rfl); (case zqkF => exact rfl); (case zqkK => first | exact rfl | assumption); (case zqk1 => k_asm); (case zqk2 => k_asm); (case zqk3 => k_asm); (case zqk4 => k_asm); (case zqk5 => k_asm); (case zqk6 => k_is); (case zqk7 => k_is); (case zqk8 => walk_at "KD"); (case zqk9 => first | exact BindsTo.of_eq rfl | exact binds_K (by k_in) rfl (by k_is) rfl rfl rfl | fail "ENTER: no rule for these arguments"); (case zqc5 => decide); (case zqkB => exact locs rfl); (case zqc2 => exact rfl); (case zqc3 => exact rfl); (case zqc4 => exact rfl); k_whole; intro g' L' h' tk' FG' mm F' N' B' X' T' qk ek)
  k_with "call ref" => (k_here; k_dflt (first | (refine' call_cls0 ?zqk1 ?zqk2 ?zqk3 ?zqk4 ?zqk5 ?_; (case zqk1 => k_asm); (case zqk2 => k_asm); (case zqk3 => k_asm); (case zqk4 => k_is); (case zqk5 => k_is); k_whole; intro x' d' h' F' N' l1 l2; (try k_lt l1); (try k_lt2 l2); (try k_sweep)) | (refine' call_cls ?zqk1 ?zqk2 ?zqk3 ?zqk4 ?zqk5 ?zqk6 ?_; (case zqk1 => k_asm); (case zqk2 => k_asm); (case zqk3 => k_asm); (case zqk4 => k_is); (case zqk5 => k_is); (case zqk6 => k_is); k_whole; intro x' d' h' F' N' l1 l2; (try k_lt l1); (try k_lt2 l2); (try k_sweep); walk_at "ENTER") | (refine' call_meth ?zqk1 ?zqk2 ?_; (case zqk1 => k_asm); (case zqk2 => k_mem); k_whole; walk_at "ENTER") | (refine wpAny_call ?_; walk_at "ENTER")))
  k_with "call builtin:len" => (k_here; (with_reducible show wpAny _ _ (call (Value.builtin "len") [Value.ref _]) _ _ _); k_dflt (refine' kst_len ?zqk1 ?zqk2 ?zqk3 ?zqk4 ?_; (case zqk1 => k_asm); (case zqk2 => k_mem); (case zqk3 => first | assumption | exact rfl); (case zqk4 => omega); k_whole))
  k_with "WhileStep2" => (first | (with_reducible show WhileStep2 _ _ _ _ _ _ (Flow.ret _) _) | (with_reducible show WhileStep2 _ _ _ _ _ _ Flow.brk _)); (dsimp only [WhileStep2])
  k_with "execs cons" => (k_here; refine wpAny_execs_cons (foldQ ?_); intro qs)
  k_with "storeName" => (k_here; (try dsimp only); k_dflt (refine' store_ ?zqF ?zqN ?_ ?zqa ?zqb; (case zqF => k_asm); (case zqN => k_asm); (case zqa => first | exact rfl | assumption); (case zqb => rfl); k_whole; intro h' tk' mm F' N'; (try k_sweep)))
  k_with "exec While Compare cons nil" => refine Halt.go ?_
  k_with "pyIter ref" => refine Halt.go ?_
  k_with "call type:enumerate" => refine Halt.go ?_
  k_with "KswEnd" => refine Halt.at (k := "KswEnd") (by assumption) ?_
  k_with "subscriptTail" => refine Halt.at (k := "subscriptTail") (by assumption) ?_
  k_with "eval ListComp" => refine Halt.at (k := "eval ListComp") (by assumption) ?_
  k_with "CompSrc" => refine Halt.at (k := "CompSrc") (by assumption) ?_
  k_with "CompEnd" => refine Halt.at (k := "CompEnd") (by assumption) ?_
  k_with "call ref" => refine Halt.at (k := "call ref") (by assumption) ?_
  k_with "call builtin:sorted" => refine Halt.at (k := "call builtin:sorted") (by assumption) ?_
  k_with "call builtin:repr" => refine Halt.at (k := "call builtin:repr") (by assumption) ?_
  k_with "unpackItems ref" => refine Halt.at (k := "unpackItems ref") (by assumption) ?_
  k_with "compareOp Eq ref ref" => refine Halt.at (k := "compareOp Eq ref ref") (by assumption) ?_
  k_with "call type:str" => refine Halt.at (k := "call type:str") (by assumption) ?_
  exact trivial

inductive PKey where
  | int (i : Int)
  | bts (b : List UInt8)
  deriving DecidableEq
structure PNode where
  key : Option PKey
  val : Value
  next : Int
structure Tab where
  arr : List Value
  nodes : List PNode
  free : Int
  size : Int
inductive KV : Value → Option PKey → Prop
  | none : KV .none none
  | int (i : Int) (t : Tok) : KV (.int i t) (some (.int i))
  | bts (b : Array UInt8) (t : Tok) : KV (.bytes b t) (some (.bts b.toList))
structure Lay where
  d : Addr
  al : Addr
  nl : Addr
  ns : List (Addr × Addr)
inductive TabDict (al nl : Addr) (size free : Int) : Obj → Prop
  | mk (h0 h1 h2 h3 h4 h5 h6 h7 h8 h9 : Int) (t0 t1 t2 t3 t4 t5 t6 t7 t8 t9 : Tok) (v0 v1 v3 v4 v5 v8 : Value) (tz tf : Tok) :
      TabDict al nl size free (dictOf [⟨h0, .str (Str.ofString "number") t0, v0⟩, ⟨h1, .str (Str.ofString "mark") t1, v1⟩, ⟨h2, .str (Str.ofString "size") t2, .int size tz⟩, ⟨h3, .str (Str.ofString "meta") t3, v3⟩, ⟨h4, .str (Str.ofString "flags") t4, v4⟩,
        ⟨h5, .str (Str.ofString "weak") t5, v5⟩, ⟨h6, .str (Str.ofString "array") t6, .ref al⟩, ⟨h7, .str (Str.ofString "nodes") t7, .ref nl⟩, ⟨h8, .str (Str.ofString "log_nodes") t8, v8⟩, ⟨h9, .str (Str.ofString "free") t9, .int free tf⟩] 10)
inductive NodeDict (kv v : Value) (next : Int) : Obj → Prop
  | mk (h0 h1 h2 : Int) (t0 t1 t2 tn : Tok) :
      NodeDict kv v next (dictOf [⟨h0, .str (Str.ofString "key") t0, kv⟩, ⟨h1, .str (Str.ofString "value") t1, v⟩, ⟨h2, .str (Str.ofString "next") t2, .int next tn⟩] 3)
structure NodeAt (nw : Led) (p : Addr × Addr) (x : PNode) : Prop where
  inst : (p.1, instObj 177 p.2) ∈ nw
  hand : handedIn x.val = true
  dict : ∃ kv o, KV kv x.key ∧ NodeDict kv x.val x.next o ∧ (p.2, o) ∈ nw
structure TabIn (nw : Led) (t : Addr) (Y : Lay) (T : Tab) : Prop where
  inst : (t, instObj 408 Y.d) ∈ nw
  dict : ∃ o, TabDict Y.al Y.nl T.size T.free o ∧ (Y.d, o) ∈ nw
  arr : ∃ c, (Y.al, listOf T.arr.toArray c) ∈ nw
  nds : ∃ c, (Y.nl, listOf (Y.ns.map (fun p => Value.ref p.1)).toArray c) ∈ nw
  len : Y.ns.length = T.nodes.length
  node : ∀ (i : Nat) p x, Y.ns[i]? = some p → T.nodes[i]? = some x → NodeAt nw p x
  dis : (Y.d :: Y.ns.map (·.2)).Nodup
  aln : Y.al ≠ Y.nl
  asz : T.arr.length < 2 ^ 24
  nsz : T.nodes.length < 2 ^ 21
noncomputable def hashB : List UInt8 → Int
  | [x, y] => hash2 x y
  | _ => 0
noncomputable def KeyOk : PKey → Prop
  | .int _ => True
  | .bts b => b.length = 2
noncomputable def mainP (n : Nat) : PKey → Int
  | .int i => i.fmod (Builtin.bitOr ((n : Int) - 1) 1)
  | .bts b => Builtin.bitAnd (hashB b) ((n : Int) - 1)

end
section
theorem wd_P6_0 : True := by
  k_with_none
  exact trivial
theorem wd_P6_9 : True := by
  k_with "KD" => first | exact dlt (by assumption) (by first | decide | omega) | exact dlt1 (by assumption) (by first | decide | omega) | exact dlt0 (by assumption) | ktr_room
  k_with "KU" => first | exact ult (by assumption) (by first | decide | omega) | ktr_units
  k_with "ENTER" => (refine' enter_ ?zqk1 ?zqk2 ?zqk3 ?zqk4 ?zqk5 ?zqkA ?zqkF ?zqkK ?zqk6 ?zqk7 ?zqk8 ?zqk9 ?zqkB ?_ ?zqc2 ?zqc3 ?zqc4 ?zqc5; (case zqkA => exact rfl); (case zqkF => exact rfl); (case zqkK => first | exact rfl | assumption); (case zqk1 => k_asm); (case zqk2 => k_asm); (case zqk3 => k_asm); (case zqk4 => k_asm); (case zqk5 => k_asm); (case zqk6 => k_is); (case zqk7 => k_is); (case zqk8 => walk_at "KD"); (case zqk9 => first | exact BindsTo.of_eq rfl | exact binds_K (by k_in) rfl (by k_is) rfl rfl rfl | fail "ENTER: no rule for these arguments"); (case zqc5 => decide); (case zqkB => exact locs rfl); (case zqc2 => exact rfl); (case zqc3 => exact rfl); (case zqc4 => exact rfl); k_whole; intro g' L' h' tk' FG' mm F' N' B' X' T' qk ek)
  k_with "call ref" => (k_here; k_dflt (first | (refine' call_cls0 ?zqk1 ?zqk2 ?zqk3 ?zqk4 ?zqk5 ?_; (case zqk1 => k_asm); (case zqk2 => k_asm); (case zqk3 => k_asm); (case zqk4 => k_is); (case zqk5 => k_is); k_whole; intro x' d' h' F' N' l1 l2; (try k_lt l1); (try k_lt2 l2); (try k_sweep)) | (refine' call_cls ?zqk1 ?zqk2 ?zqk3 ?zqk4 ?zqk5 ?zqk6 ?_; (case zqk1 => k_asm); (case zqk2 => k_asm); (case zqk3 => k_asm); (case zqk4 => k_is); (case zqk5 => k_is); (case zqk6 => k_is); k_whole; intro x' d' h' F' N' l1 l2; (try k_lt l1); (try k_lt2 l2); (try k_sweep); walk_at "ENTER") | (refine' call_meth ?zqk1 ?zqk2 ?_; (case zqk1 => k_asm); (case zqk2 => k_mem); k_whole; walk_at "ENTER") | (refine wpAny_call ?_; walk_at "ENTER")))
  k_with "call builtin:len" => (k_here; (with_reducible show wpAny _ _ (call (Value.builtin "len") [Value.ref _]) _ _ _); k_dflt (refine' kst_len ?zqk1 ?zqk2 ?zqk3 ?zqk4 ?_; (case zqk1 => k_asm); (case zqk2 => k_mem); (case zqk3 => first | assumption | exact rfl); (case zqk4 => omega); k_whole))
  k_with "WhileStep2" => (first | (with_reducible show WhileStep2 _ _ _ _ _ _ (Flow.ret _) _) | (with_reducible show WhileStep2 _ _ _ _ _ _ Flow.brk _)); (dsimp only [WhileStep2])
  k_with "execs cons" => (k_here; refine wpAny_execs_cons (foldQ ?_); intro qs)
  k_with "storeName" => (k_here; (try dsimp only); k_dflt (refine' store_ ?zqF ?zqN ?_ ?zqa ?zqb; (case zqF => k_asm); (case zqN => k_asm); (case zqa => first | exact rfl | assumption); (case zqb => rfl); k_whole; intro h' tk' mm F' N'; (try k_sweep)))
  k_with "exec While Compare cons nil" => refine Halt.go ?_
  k_with "pyIter ref" => refine Halt.go ?_
  k_with "call type:enumerate" => refine Halt.go ?_
  k_with "KswEnd" => refine Halt.at (k := "KswEnd") (by assumption) ?_
  k_with "subscriptTail" => refine Halt.at (k := "subscriptTail") (by assumption) ?_
  k_with "eval ListComp" => refine Halt.at (k := "eval ListComp") (by assumption) ?_
  k_with "CompSrc" => refine Halt.at (k := "CompSrc") (by assumption) ?_
  k_with "CompEnd" => refine Halt.at (k := "CompEnd") (by assumption) ?_
  k_with "call ref" => refine Halt.at (k := "call ref") (by assumption) ?_
  k_with "call builtin:sorted" => refine Halt.at (k := "call builtin:sorted") (by assumption) ?_
  k_with "call builtin:repr" => refine Halt.at (k := "call builtin:repr") (by assumption) ?_
  k_with "unpackItems ref" => refine Halt.at (k := "unpackItems ref") (by assumption) ?_
  k_with "compareOp Eq ref ref" => refine Halt.at (k := "compareOp Eq ref ref") (by assumption) ?_
  k_with "call type:str" => refine Halt.at (k := "call type:str") (by assumption) ?_
  k_with "call ref" => (k_here; k_dflt ((refine' Spec.useI (shash_spec _ _ _ _) ?zqk1 ?zqk2 ?zqk3 ?zqk4 ?zqk5 ?zqkK ?zqkP ?zqkd ?zqku ?_; (case zqk1 => k_asm); (case zqk2 => k_asm); (case zqk3 => k_asm); (case zqk4 => k_asm); (case zqk5 => k_asm); (case zqkK => first | exact rfl | assumption); (case zqkP => trivial); (case zqkd => walk_at "KD"); (case zqku => walk_at "KU"); k_whole; intro t1 h' tk' F' N'); (try dsimp only); (try k_sweep)))
  exact trivial
theorem bitOr1_ne {n : Nat} (h : 0 < n) : Builtin.bitOr ((n : Int) - 1) 1 ≠ 0 := by
  rw [bitOr_and]
  have := bitAnd_m1 ((n : Int) - 1)
  omega
set_option maxRecDepth 100000 in
set_option maxHeartbeats 8000000 in
theorem main_int (w : World) (t : Addr) (Y : Lay) (T : Tab) (i : Int) (tk : Tok) : Spec w 224 [.ref t, .int i tk] 6 (fun nw => TabIn nw t Y T ∧ 0 < T.nodes.length) (SameI (mainP T.nodes.length (.int i))) := by
  unfold Spec
  k_fill
  intro mean mg mb dp un gd cn cs a ccd cl outer A₀ base h₀ L m news s Q E B F X N TP hk hP hd hu hret
  w_top on
  w_on
  obtain ⟨hT, hn⟩ := hP
  obtain ⟨hTi, ⟨oT, ⟨⟩, hTd⟩, ⟨ca, hTa⟩, ⟨cN, hTn⟩, hTl, hTnode, hTdis, hTaln, hTasz, hTnsz⟩ := hT
  have hLN : (Y.ns.map (fun p => Value.ref p.1)).length = T.nodes.length := by rw [List.length_map]; exact hTl
  k_steps
  · exfalso
    have h9 : Builtin.bitOr ((T.nodes.length : Int) - 1) 1 = 0 := by assumption
    exact bitOr1_ne hn h9
  · all_goals first | exact hret _ _ _ _ (by k_asm) (by first | k_asm | exact News.tl (by k_asm) | exact News.tl (News.tl (by k_asm)) | exact News.tl (News.tl (News.tl (by k_asm)))) ⟨rfl, _, rfl⟩ | skip
set_option maxRecDepth 100000 in
set_option maxHeartbeats 8000000 in
theorem main_bytes (w : World) (t : Addr) (Y : Lay) (T : Tab) (x y : UInt8) (tk : Tok) : Spec w 224 [.ref t, .bytes #[x, y] tk] 6 (fun nw => TabIn nw t Y T ∧ 0 < T.nodes.length) (SameI (mainP T.nodes.length (.bts [x, y]))) := by
  unfold Spec
  k_fill
  intro mean mg mb dp un gd cn cs a ccd cl outer A₀ base h₀ L m news s Q E B F X N TP hk hP hd hu hret
  w_top on
  w_on
  obtain ⟨hT, hn⟩ := hP
  obtain ⟨hTi, ⟨oT, ⟨⟩, hTd⟩, ⟨ca, hTa⟩, ⟨cN, hTn⟩, hTl, hTnode, hTdis, hTaln, hTasz, hTnsz⟩ := hT
  have hLN : (Y.ns.map (fun p => Value.ref p.1)).length = T.nodes.length := by rw [List.length_map]; exact hTl
  k_steps
  all_goals first | exact hret _ _ _ _ (by k_asm) (by first | k_asm | exact News.tl (by k_asm) | exact News.tl (News.tl (by k_asm)) | exact News.tl (News.tl (News.tl (by k_asm)))) ⟨rfl, _, rfl⟩ | skip

end
section
theorem wd_P7_0 : True := by
  k_with_none
  exact trivial
theorem wd_P7_10 : True := by
  k_with "KD" => first | exact dlt (by assumption) (by first | decide | omega) | exact dlt1 (by assumption) (by first | decide | omega) | exact dlt0 (by assumption) | ktr_room
  k_with "KU" => first | exact ult (by assumption) (by first | decide | omega) | ktr_units
  k_with "ENTER" => (refine' enter_ ?zqk1 ?zqk2 ?zqk3 ?zqk4 ?zqk5 ?zqkA ?zqkF ?zqkK ?zqk6 ?zqk7 ?zqk8 ?zqk9 ?zqkB ?_ ?zqc2 ?zqc3 ?zqc4 ?zqc5; (case zqkA => exact rfl); (case zqkF => exact rfl); (case zqkK => first | exact rfl | assumption); (case zqk1 => k_asm); (case zqk2 => k_asm); (case zqk3 => k_asm); (case zqk4 => k_asm); (case zqk5 => k_asm); (case zqk6 => k_is); (case zqk7 => k_is); (case zqk8 => walk_at "KD"); (case zqk9 => first | exact BindsTo.of_eq rfl | exact binds_K (by k_in) rfl (by k_is) rfl rfl rfl | fail "ENTER: no rule for these arguments"); (case zqc5 => decide); (case zqkB => exact locs rfl); (case zqc2 => exact rfl); (case zqc3 => exact rfl); (case zqc4 => exact rfl); k_whole; intro g' L' h' tk' FG' mm F' N' B' X' T' qk ek)
  k_with "call ref" => (k_here; k_dflt (first | (refine' call_cls0 ?zqk1 ?zqk2 ?zqk3 ?zqk4 ?zqk5 ?_; (case zqk1 => k_asm); (case zqk2 => k_asm); (case zqk3 => k_asm); (case zqk4 => k_is); (case zqk5 => k_is); k_whole; intro x' d' h' F' N' l1 l2; (try k_lt l1); (try k_lt2 l2); (try k_sweep)) | (refine' call_cls ?zqk1 ?zqk2 ?zqk3 ?zqk4 ?zqk5 ?zqk6 ?_; (case zqk1 => k_asm); (case zqk2 => k_asm); (case zqk3 => k_asm); (case zqk4 => k_is); (case zqk5 => k_is); (case zqk6 => k_is); k_whole; intro x' d' h' F' N' l1 l2; (try k_lt l1); (try k_lt2 l2); (try k_sweep); walk_at "ENTER") | (refine' call_meth ?zqk1 ?zqk2 ?_; (case zqk1 => k_asm); (case zqk2 => k_mem); k_whole; walk_at "ENTER") | (refine wpAny_call ?_; walk_at "ENTER")))
  k_with "call builtin:len" => (k_here; (with_reducible show wpAny _ _ (call (Value.builtin "len") [Value.ref _]) _ _ _); k_dflt (refine' kst_len ?zqk1 ?zqk2 ?zqk3 ?zqk4 ?_; (case zqk1 => k_asm); (case zqk2 => k_mem); (case zqk3 => first | assumption | exact rfl); (case zqk4 => omega); k_whole))
  k_with "WhileStep2" => (first | (with_reducible show WhileStep2 _ _ _ _ _ _ (Flow.ret _) _) | (with_reducible show WhileStep2 _ _ _ _ _ _ Flow.brk _)); (dsimp only [WhileStep2])
  k_with "execs cons" => (k_here; refine wpAny_execs_cons (foldQ ?_); intro qs)
  k_with "storeName" => (k_here; (try dsimp only); k_dflt (refine' store_ ?zqF ?zqN ?_ ?zqa ?zqb; (case zqF => k_asm); (case zqN => k_asm); (case zqa => first | exact rfl | assumption); (case zqb => rfl); k_whole; intro h' tk' mm F' N'; (try k_sweep)))
  k_with "exec While Compare cons nil" => refine Halt.go ?_
  k_with "pyIter ref" => refine Halt.go ?_
  k_with "call type:enumerate" => refine Halt.go ?_
  k_with "KswEnd" => refine Halt.at (k := "KswEnd") (by assumption) ?_
  k_with "subscriptTail" => refine Halt.at (k := "subscriptTail") (by assumption) ?_
  k_with "eval ListComp" => refine Halt.at (k := "eval ListComp") (by assumption) ?_
  k_with "CompSrc" => refine Halt.at (k := "CompSrc") (by assumption) ?_
  k_with "CompEnd" => refine Halt.at (k := "CompEnd") (by assumption) ?_
  k_with "call ref" => refine Halt.at (k := "call ref") (by assumption) ?_
  k_with "call builtin:sorted" => refine Halt.at (k := "call builtin:sorted") (by assumption) ?_
  k_with "call builtin:repr" => refine Halt.at (k := "call builtin:repr") (by assumption) ?_
  k_with "unpackItems ref" => refine Halt.at (k := "unpackItems ref") (by assumption) ?_
  k_with "compareOp Eq ref ref" => refine Halt.at (k := "compareOp Eq ref ref") (by assumption) ?_
  k_with "call type:str" => refine Halt.at (k := "call type:str") (by assumption) ?_
  exact trivial

/-! the ledger with one entry turned -/
noncomputable def off (d : Addr) (l : Led) : Led := l.filter fun p => decide (p.1 ≠ d)
noncomputable def put (d : Addr) (o : Obj) (l : Led) : Led := (d, o) :: off d l
theorem mem_off {d : Addr} {l : Led} {p : Addr × Obj} : p ∈ off d l ↔ p ∈ l ∧ p.1 ≠ d := by
  unfold off; rw [List.mem_filter]; simp
theorem off_ne {d : Addr} {l : Led} : ∀ p ∈ off d l, p.1 ≠ d := fun _ h => (mem_off.mp h).2
theorem put_ne {d : Addr} {o : Obj} {l : Led} {p : Addr × Obj} (h : p ∈ l) (hn : p.1 ≠ d) : p ∈ put d o l := .tail _ (mem_off.mpr ⟨h, hn⟩)
theorem put_self {d : Addr} {o : Obj} {l : Led} : (d, o) ∈ put d o l := .head _
theorem News.off {h₀ h : Heap} {L d : Addr} {o : Obj} {l : Led} (N : News h₀ L h l) (hm : (d, o) ∈ l) : News h₀ L h ((d, o) :: Mine.off d l) := by
  intro p hp
  rcases List.mem_cons.mp hp with rfl | hp
  · exact N _ hm
  · exact N _ (mem_off.mp hp).1
theorem News.fn {h₀ h : Heap} {L a : Addr} {o o' : Obj} {l : Led} (N : News h₀ L h l) (h1 : (a, o) ∈ l) (h2 : (a, o') ∈ l) : o = o' :=
  Option.some.inj ((N _ h1).1.symm.trans (N _ h2).1)

section
variable {prog : Program} {w : World} {A : Around} {E : Value → Shared → Prop} {s : Shared} {h₀ : Heap} {L : Addr} {m : Str → Option Value} {news : Led}
theorem set_dictP {K : Frag} {x C dx : Addr} {ox : Obj} {es es' : List DictEntry} {n n' : Nat} {name : Str} {v : Value} {Q : Unit → Shared → Prop} (F : Fr h₀ L s.heap m) (X₀ : K.In h₀) (N : News h₀ L s.heap news) (I : InstAt s.heap x ox C (some (dictOf es n))) (hd : ox.dict = some dx)
    (hs : findIn K (.ref C) "__setattr__" = some (some (.builtin "object.__setattr__"))) (hp : plainOver K C = true) (ht : takerIn K C name = some none) (hh : hasDictIn K C = true) (hl : (getL name es).isSome = true)
    (e : (putL name (PyData.keyHash w.params name) (.str name (s.toks + 1)) v es, putN name es n) = (es', n')) (hm : (dx, dictOf es n) ∈ news) (hz : es'.length ≤ 1000)
    (h : ∀ h', Fr h₀ L h' m → News h₀ L h' (put dx (dictOf es' n') news) → Q () { s with heap := h', toks := s.toks + 2 }) :
    wpAny (model prog w) A (setAttr (.ref x) name v) Q E s :=
  set_dict F X₀ (News.off N hm) I hd hs hp ht hh hl e (Upd.head off_ne) hz h
theorem setAtP {l : Addr} {vs : List Value} {c : Nat} {k : Int} {t : Tok} {v : Value} {Q : Unit → Shared → Prop} (F : Fr h₀ L s.heap m) (N : News h₀ L s.heap news) (hm : (l, listOf vs.toArray c) ∈ news) (h0 : 0 ≤ k) (h1 : k < vs.length) (hfit : k < 2 ^ 63)
    (h : ∀ h', Fr h₀ L h' m → News h₀ L h' (put l (listOf (vs.set k.toNat v).toArray c) news) → Q () { s with heap := h' }) :
    wpAny (model prog w) A (setItem (.ref l) (.int k t) v) Q E s := by
  have N' := News.off N hm
  have z := N _ hm
  refine ki_setAt z.1 h0 hfit (by simpa using h1) (h _ (F.change (Heap.SameBut.update ..) z.2.1 z.2.2) (ki_turn (pre := []) _ N' (fun _ h => nomatch h) off_ne ?_ ?_))
  · apply Array.toList_inj.mp
    simp
  · simp
theorem appendP {l : Addr} {vs : List Value} {c : Nat} {x : Value} {Q : Value → Shared → Prop} (F : Fr h₀ L s.heap m) (N : News h₀ L s.heap news) (hm : (l, listOf vs.toArray c) ∈ news)
    (hsz : vs.length ≤ sizeLine) (h : ∀ h', Fr h₀ L h' m → News h₀ L h' (put l (listOf (vs ++ [x]).toArray (c + 1)) news) → Q .none { s with heap := h' }) :
    wpAny (model prog w) A (call (.builtin "list.append") [.ref l, x]) Q E s :=
  append_K F (News.off N hm) (Upd.head off_ne) (fun h' F' N' => h h' F' (by rw [List.push_toArray] at N'; exact N')) (by simpa using hsz)
theorem itemP {value slice : PySem.Expr} {l : Addr} {vs : List Value} {c : Nat} {k : Int} {u : Tok} {v : Value} {Q : Value → Shared → Prop} (N : News h₀ L s.heap news) (hm : (l, listOf vs.toArray c) ∈ news) (h0 : 0 ≤ k) (hhi : k < 2 ^ 63) (hx : vs[k.toNat]? = some v) (h : Q v s)
    (hs : subscripted slice false (.ref l) (.int k u) = operate [.ref l, .int k u] (getItem (.ref l) (.int k u)) := by with_unfolding_all rfl) :
    wpAny (model prog w) A (subscriptTail value slice (.ref l) (.int k u)) Q E s :=
  item_litK (PySem.IsL.isList (n := c) (N _ hm).1) h0 hhi hx h hs
end

/-! turning a table -/
noncomputable def touch (Y : Lay) : List Addr := Y.d :: Y.al :: Y.ns.map (·.2)
noncomputable def Keeps (Y : Lay) (l l' : Led) : Prop := ∀ p ∈ l, p.1 ∉ touch Y → p ∈ l'
theorem TabIn.addr {h₀ h : Heap} {L : Addr} {l : Led} {t : Addr} {Y : Lay} {T : Tab} (N : News h₀ L h l) (hT : TabIn l t Y T) :
    t ∉ touch Y ∧ Y.nl ∉ touch Y ∧ Y.d ≠ Y.al ∧ (∀ p ∈ Y.ns, p.1 ∉ touch Y ∧ p.2 ≠ Y.al) := by
  obtain ⟨hi, ⟨o, hd, hdm⟩, ⟨ca, ha⟩, ⟨cn, hn⟩, hl, hnode, hdis, haln, _, _⟩ := hT
  have nodeAt : ∀ p ∈ Y.ns, ∃ x, NodeAt l p x := by
    intro p hp
    obtain ⟨i, hi, e⟩ := List.getElem_of_mem hp
    have h2 : i < T.nodes.length := by omega
    exact ⟨T.nodes[i], hnode i p T.nodes[i] (by rw [List.getElem?_eq_getElem hi, e]) (List.getElem?_eq_getElem h2)⟩
  have isD : ∀ a ∈ Y.d :: Y.ns.map (·.2), ∃ es n, (a, dictOf es n) ∈ l := by
    intro a ha
    rcases List.mem_cons.mp ha with rfl | ha
    · cases hd; exact ⟨_, _, hdm⟩
    · obtain ⟨p, hp, rfl⟩ := List.mem_map.mp ha
      obtain ⟨x, _, _, kv, o, _, hnd, hm⟩ := nodeAt p hp
      cases hnd; exact ⟨_, _, hm⟩
  have apart : ∀ a o, (a, o) ∈ l → (∀ es n, o ≠ dictOf es n) → (∀ its c, o = listOf its c → a ≠ Y.al) → (a = Y.al → ∃ its c, o = listOf its c) → a ∉ touch Y := by
    intro a o hm h1 h2 h3 hin
    unfold touch at hin
    have hin' : a = Y.al ∨ a ∈ Y.d :: Y.ns.map (·.2) := by
      rcases List.mem_cons.mp hin with e | hin
      · exact .inr (List.mem_cons.mpr (.inl e))
      · rcases List.mem_cons.mp hin with e | hin
        · exact .inl e
        · exact .inr (List.mem_cons.mpr (.inr hin))
    rcases hin' with e | hin'
    · obtain ⟨its, c, e2⟩ := h3 e
      exact h2 its c e2 e
    · obtain ⟨es, n, hm2⟩ := isD a hin'
      exact h1 es n (News.fn N hm hm2)
  refine ⟨?_, ?_, ?_, ?_⟩
  · refine apart _ _ hi (fun es n e => by cases congrArg Obj.data e) (fun its c e => by cases congrArg Obj.data e) (fun e => ⟨_, _, News.fn N hi (e ▸ ha)⟩)
  · refine apart _ _ hn (fun es n e => by cases congrArg Obj.data e) (fun its c e e2 => haln e2.symm) (fun e => absurd e.symm haln)
  · intro e
    cases hd
    cases congrArg Obj.data (News.fn N hdm (e ▸ ha))
  · intro p hp
    obtain ⟨x, hin, _, kv, o, _, hnd, hm⟩ := nodeAt p hp
    refine ⟨apart _ _ hin (fun es n e => by cases congrArg Obj.data e) (fun its c e => by cases congrArg Obj.data e) (fun e => ⟨_, _, News.fn N hin (e ▸ ha)⟩), fun e => ?_⟩
    cases hnd
    cases congrArg Obj.data (News.fn N hm (e ▸ ha))
theorem TabIn.put_d {h₀ h : Heap} {L : Addr} {l : Led} {t : Addr} {Y : Lay} {T : Tab} (N : News h₀ L h l) (hT : TabIn l t Y T) {o : Obj} {f z : Int} (ho : TabDict Y.al Y.nl z f o) :
    TabIn (put Y.d o l) t Y { T with free := f, size := z } ∧ Keeps Y l (put Y.d o l) := by
  have ad := hT.addr N
  have kp : Keeps Y l (put Y.d o l) := fun p hp hn => put_ne hp fun e => hn (by rw [e]; exact .head _)
  obtain ⟨hi, ⟨o', hd, hdm⟩, ⟨ca, ha⟩, ⟨cn, hn⟩, hl, hnode, hdis, haln, h1, h2⟩ := hT
  refine ⟨⟨kp _ hi ad.1, ⟨o, ho, put_self⟩, ⟨ca, put_ne ha fun e => ad.2.2.1 e.symm⟩, ⟨cn, kp _ hn ad.2.1⟩, hl, fun i p x hp hx => ?_, hdis, haln, h1, h2⟩, kp⟩
  obtain ⟨hin, hvx, kv, o2, k1, k2, k3⟩ := hnode i p x hp hx
  have hmem := List.mem_of_getElem? hp
  refine ⟨kp _ hin (ad.2.2.2 p hmem).1, hvx, kv, o2, k1, k2, put_ne k3 fun e => ?_⟩
  have := (List.nodup_cons.mp hdis).1
  exact this (List.mem_map.mpr ⟨p, hmem, e⟩)
theorem TabIn.put_a {h₀ h : Heap} {L : Addr} {l : Led} {t : Addr} {Y : Lay} {T : Tab} (N : News h₀ L h l) (hT : TabIn l t Y T) {vs : List Value} {c : Nat} (hsz : vs.length < 2 ^ 24) :
    TabIn (put Y.al (listOf vs.toArray c) l) t Y { T with arr := vs } ∧ Keeps Y l (put Y.al (listOf vs.toArray c) l) := by
  have ad := hT.addr N
  have kp : Keeps Y l (put Y.al (listOf vs.toArray c) l) := fun p hp hn => put_ne hp fun e => hn (by rw [e]; exact .tail _ (.head _))
  obtain ⟨hi, ⟨o', hd, hdm⟩, ⟨ca, ha⟩, ⟨cn, hn⟩, hl, hnode, hdis, haln, h1, h2⟩ := hT
  refine ⟨⟨kp _ hi ad.1, ⟨o', hd, put_ne hdm ad.2.2.1⟩, ⟨c, put_self⟩, ⟨cn, kp _ hn ad.2.1⟩, hl, fun i p x hp hx => ?_, hdis, haln, hsz, h2⟩, kp⟩
  obtain ⟨hin, hvx, kv, o2, k1, k2, k3⟩ := hnode i p x hp hx
  have hmem := List.mem_of_getElem? hp
  exact ⟨kp _ hin (ad.2.2.2 p hmem).1, hvx, kv, o2, k1, k2, put_ne k3 (ad.2.2.2 p hmem).2⟩
theorem TabIn.put_n {h₀ h : Heap} {L : Addr} {l : Led} {t : Addr} {Y : Lay} {T : Tab} (N : News h₀ L h l) (hT : TabIn l t Y T) {i : Nat} {p : Addr × Addr} (hp : Y.ns[i]? = some p) {x : PNode} {kv : Value} {o : Obj} (hk : KV kv x.key) (hv : handedIn x.val = true) (ho : NodeDict kv x.val x.next o) :
    TabIn (put p.2 o l) t Y { T with nodes := T.nodes.set i x } ∧ Keeps Y l (put p.2 o l) := by
  have ad := hT.addr N
  have hmem := List.mem_of_getElem? hp
  have hin2 : p.2 ∈ touch Y := .tail _ (.tail _ (List.mem_map_of_mem hmem))
  have kp : Keeps Y l (put p.2 o l) := fun q hq hn => put_ne hq fun e => hn (by rw [e]; exact hin2)
  obtain ⟨hi, ⟨o', hd, hdm⟩, ⟨ca, ha⟩, ⟨cn, hn⟩, hl, hnode, hdis, haln, h1, h2⟩ := hT
  have hdn := List.nodup_cons.mp hdis
  refine ⟨⟨kp _ hi ad.1, ⟨o', hd, put_ne hdm fun e => hdn.1 (List.mem_map.mpr ⟨p, hmem, e.symm⟩)⟩, ⟨ca, put_ne ha fun e => (ad.2.2.2 p hmem).2 e.symm⟩, ⟨cn, kp _ hn ad.2.1⟩, by simpa using hl, fun j q y hq hy => ?_, hdis, haln, h1, by simpa using h2⟩, kp⟩
  have hqm := List.mem_of_getElem? hq
  by_cases e : j = i
  · subst e
    have e2 : q = p := Option.some.inj (hq.symm.trans hp)
    subst e2
    have hlt : j < T.nodes.length := by
      have := (List.getElem?_eq_some_iff.mp hq).1
      omega
    have e3 : y = x := by
      dsimp only at hy
      rw [List.getElem?_set_self hlt] at hy
      exact (Option.some.inj hy).symm
    subst e3
    obtain ⟨hin, _⟩ := hnode j q T.nodes[j] hq (List.getElem?_eq_getElem hlt)
    exact ⟨kp _ hin (ad.2.2.2 q hmem).1, hv, kv, o, hk, ho, put_self⟩
  · dsimp only at hy
    rw [List.getElem?_set_ne (Ne.symm e)] at hy
    obtain ⟨hin, hvy, kv2, o2, k1, k2, k3⟩ := hnode j q y hq hy
    refine ⟨kp _ hin (ad.2.2.2 q hqm).1, hvy, kv2, o2, k1, k2, put_ne k3 fun e4 => ?_⟩
    obtain ⟨hj, ej⟩ := List.getElem?_eq_some_iff.mp hq
    obtain ⟨hi', ei⟩ := List.getElem?_eq_some_iff.mp hp
    have hpw := List.pairwise_iff_getElem.mp hdn.2
    rcases Nat.lt_or_gt_of_ne e with hlt | hgt
    · have := hpw j i (by simpa using hj) (by simpa using hi') hlt
      rw [List.getElem_map, List.getElem_map, ej, ei] at this
      exact this e4
    · have := hpw i j (by simpa using hi') (by simpa using hj) hgt
      rw [List.getElem_map, List.getElem_map, ej, ei] at this
      exact this e4.symm

end
section
theorem wd_P8_0 : True := by
  k_with_none
  exact trivial
theorem wd_P8_11 : True := by
  k_with "KD" => first | exact dlt (by assumption) (by first | decide | omega) | exact dlt1 (by assumption) (by first | decide | omega) | exact dlt0 (by assumption) | ktr_room
  k_with "KU" => first | exact ult (by assumption) (by first | decide | omega) | ktr_units
  k_with "ENTER" => (refine' enter_ ?zqk1 ?zqk2 ?zqk3 ?zqk4 ?zqk5 ?zqkA ?zqkF ?zqkK ?zqk6 ?zqk7 ?zqk8 ?zqk9 ?zqkB ?_ ?zqc2 ?zqc3 ?zqc4 ?zqc5; (case zqkA => exact rfl); (case zqkF => exact rfl); (case zqkK => first | exact rfl | assumption); (case zqk1 => k_asm); (case zqk2 => k_asm); (case zqk3 => k_asm); (case zqk4 => k_asm); (case zqk5 => k_asm); (case zqk6 => k_is); (case zqk7 => k_is); (case zqk8 => walk_at "KD"); (case zqk9 => first | exact BindsTo.of_eq rfl | exact binds_K (by k_in) rfl (by k_is) rfl rfl rfl | fail "ENTER: no rule for these arguments"); (case zqc5 => decide); (case zqkB => exact locs rfl); (case zqc2 => exact rfl); (case zqc3 => exact rfl); (case zqc4 => exact rfl); k_whole; intro g' L' h' tk' FG' mm F' N' B' X' T' qk ek)
  k_with "call ref" => (k_here; k_dflt (first | (refine' call_cls0 ?zqk1 ?zqk2 ?zqk3 ?zqk4 ?zqk5 ?_; (case zqk1 => k_asm); (case zqk2 => k_asm); (case zqk3 => k_asm); (case zqk4 => k_is); (case zqk5 => k_is); k_whole; intro x' d' h' F' N' l1 l2; (try k_lt l1); (try k_lt2 l2); (try k_sweep)) | (refine' call_cls ?zqk1 ?zqk2 ?zqk3 ?zqk4 ?zqk5 ?zqk6 ?_; (case zqk1 => k_asm); (case zqk2 => k_asm); (case zqk3 => k_asm); (case zqk4 => k_is); (case zqk5 => k_is); (case zqk6 => k_is); k_whole; intro x' d' h' F' N' l1 l2; (try k_lt l1); (try k_lt2 l2); (try k_sweep); walk_at "ENTER") | (refine' call_meth ?zqk1 ?zqk2 ?_; (case zqk1 => k_asm); (case zqk2 => k_mem); k_whole; walk_at "ENTER") | (refine wpAny_call ?_; walk_at "ENTER")))
  k_with "call builtin:len" => (k_here; (with_reducible show wpAny _ _ (call (Value.builtin "len") [Value.ref _]) _ _ _); k_dflt (refine' kst_len ?zqk1 ?zqk2 ?zqk3 ?zqk4 ?_; (case zqk1 => k_asm); (case zqk2 => k_mem); (case zqk3 => first | assumption | exact rfl); (case zqk4 => omega); k_whole))
  k_with "WhileStep2" => (first | (with_reducible show WhileStep2 _ _ _ _ _ _ (Flow.ret _) _) | (with_reducible show WhileStep2 _ _ _ _ _ _ Flow.brk _)); (dsimp only [WhileStep2])
  k_with "execs cons" => (k_here; refine wpAny_execs_cons (foldQ ?_); intro qs)
  k_with "storeName" => (k_here; (try dsimp only); k_dflt (refine' store_ ?zqF ?zqN ?_ ?zqa ?zqb; (case zqF => k_asm); (case zqN => k_asm); (case zqa => first | exact rfl | assumption); (case zqb => rfl); k_whole; intro h' tk' mm F' N'; (try k_sweep)))
  k_with "exec While Compare cons nil" => refine Halt.go ?_
  k_with "pyIter ref" => refine Halt.go ?_
  k_with "call type:enumerate" => refine Halt.go ?_
  k_with "KswEnd" => refine Halt.at (k := "KswEnd") (by assumption) ?_
  k_with "subscriptTail" => refine Halt.at (k := "subscriptTail") (by assumption) ?_
  k_with "eval ListComp" => refine Halt.at (k := "eval ListComp") (by assumption) ?_
  k_with "CompSrc" => refine Halt.at (k := "CompSrc") (by assumption) ?_
  k_with "CompEnd" => refine Halt.at (k := "CompEnd") (by assumption) ?_
  k_with "call ref" => refine Halt.at (k := "call ref") (by assumption) ?_
  k_with "call builtin:sorted" => refine Halt.at (k := "call builtin:sorted") (by assumption) ?_
  k_with "call builtin:repr" => refine Halt.at (k := "call builtin:repr") (by assumption) ?_
  k_with "unpackItems ref" => refine Halt.at (k := "unpackItems ref") (by assumption) ?_
  k_with "compareOp Eq ref ref" => refine Halt.at (k := "compareOp Eq ref ref") (by assumption) ?_
  k_with "call type:str" => refine Halt.at (k := "call type:str") (by assumption) ?_
  exact trivial

section
variable {w : World} {A : Around} {E : Value → Shared → Prop} {s : Shared} {h₀ : Heap} {L t : Addr} {m : Str → Option Value} {news : Led} {Y : Lay} {T : Tab} {Q : Unit → Shared → Prop}
set_option maxRecDepth 100000 in
set_option maxHeartbeats 8000000 in
theorem set_free (F : Fr h₀ L s.heap m) (X : (Mine.hd.heap_1 w.params).In h₀) (N : News h₀ L s.heap news) (hT : TabIn news t Y T) {f : Int} {tk : Tok}
    (h : ∀ h' tk' n', Fr h₀ L h' m → News h₀ L h' n' → TabIn n' t Y { T with free := f } → Keeps Y news n' → Q () { s with heap := h', toks := tk' }) :
    wpAny (model PySem.Challenge.rw_pq0681_01.row.prog w) A (setAttr (.ref t) (Str.ofString "free") (.int f tk)) Q E s := by
  have hT' := hT
  obtain ⟨hTi, ⟨oT, ⟨⟩, hTd⟩, _⟩ := hT
  have fill : PySem.Challenge.rw_pq0681_01.row.prog = PySem.Challenge.rw_pq0681_01.row.prog ∧ (Mine.hd.heap_1 w.params).In h₀ := by
    k_fill
    exact ⟨rfl, X⟩
  refine' set_dictP F X N (.of_news N hTi hTd) rfl ?k4 ?k5 ?k6 ?k7 ?k8 ?k9 hTd ?k10 ?_
  case k4 => k_is
  case k5 => k_is
  case k6 => k_is
  case k7 => k_is
  case k8 => k_get
  case k9 => k_put
  case k10 => exact (by decide : 10 ≤ 1000)
  intro h' F' N'
  have q := fun o ho => hT'.put_d (o := o) (z := T.size) (f := f) N ho
  exact h _ _ _ F' N' (q _ (TabDict.mk ..)).1 (q _ (TabDict.mk ..)).2
set_option maxRecDepth 100000 in
set_option maxHeartbeats 8000000 in
theorem set_size (F : Fr h₀ L s.heap m) (X : (Mine.hd.heap_1 w.params).In h₀) (N : News h₀ L s.heap news) (hT : TabIn news t Y T) {z : Int} {tk : Tok}
    (h : ∀ h' tk' n', Fr h₀ L h' m → News h₀ L h' n' → TabIn n' t Y { T with size := z } → Keeps Y news n' → Q () { s with heap := h', toks := tk' }) :
    wpAny (model PySem.Challenge.rw_pq0681_01.row.prog w) A (setAttr (.ref t) (Str.ofString "size") (.int z tk)) Q E s := by
  have hT' := hT
  obtain ⟨hTi, ⟨oT, ⟨⟩, hTd⟩, _⟩ := hT
  have fill : PySem.Challenge.rw_pq0681_01.row.prog = PySem.Challenge.rw_pq0681_01.row.prog ∧ (Mine.hd.heap_1 w.params).In h₀ := by
    k_fill
    exact ⟨rfl, X⟩
  refine' set_dictP F X N (.of_news N hTi hTd) rfl ?k4 ?k5 ?k6 ?k7 ?k8 ?k9 hTd ?k10 ?_
  case k4 => k_is
  case k5 => k_is
  case k6 => k_is
  case k7 => k_is
  case k8 => k_get
  case k9 => k_put
  case k10 => exact (by decide : 10 ≤ 1000)
  intro h' F' N'
  have q := fun o ho => hT'.put_d (o := o) (z := z) (f := T.free) N ho
  exact h _ _ _ F' N' (q _ (TabDict.mk ..)).1 (q _ (TabDict.mk ..)).2
set_option maxRecDepth 100000 in
set_option maxHeartbeats 8000000 in
theorem set_flags (F : Fr h₀ L s.heap m) (X : (Mine.hd.heap_1 w.params).In h₀) (N : News h₀ L s.heap news) (hT : TabIn news t Y T) {v : Value}
    (h : ∀ h' tk' n', Fr h₀ L h' m → News h₀ L h' n' → TabIn n' t Y T → Keeps Y news n' → Q () { s with heap := h', toks := tk' }) :
    wpAny (model PySem.Challenge.rw_pq0681_01.row.prog w) A (setAttr (.ref t) (Str.ofString "flags") v) Q E s := by
  have hT' := hT
  obtain ⟨hTi, ⟨oT, ⟨⟩, hTd⟩, _⟩ := hT
  have fill : PySem.Challenge.rw_pq0681_01.row.prog = PySem.Challenge.rw_pq0681_01.row.prog ∧ (Mine.hd.heap_1 w.params).In h₀ := by
    k_fill
    exact ⟨rfl, X⟩
  refine' set_dictP F X N (.of_news N hTi hTd) rfl ?k4 ?k5 ?k6 ?k7 ?k8 ?k9 hTd ?k10 ?_
  case k4 => k_is
  case k5 => k_is
  case k6 => k_is
  case k7 => k_is
  case k8 => k_get
  case k9 => k_put
  case k10 => exact (by decide : 10 ≤ 1000)
  intro h' F' N'
  have q := fun o ho => hT'.put_d (o := o) (z := T.size) (f := T.free) N ho
  exact h _ _ _ F' N' (q _ (TabDict.mk ..)).1 (q _ (TabDict.mk ..)).2
set_option maxRecDepth 100000 in
set_option maxHeartbeats 8000000 in
theorem set_log_nodes (F : Fr h₀ L s.heap m) (X : (Mine.hd.heap_1 w.params).In h₀) (N : News h₀ L s.heap news) (hT : TabIn news t Y T) {v : Value}
    (h : ∀ h' tk' n', Fr h₀ L h' m → News h₀ L h' n' → TabIn n' t Y T → Keeps Y news n' → Q () { s with heap := h', toks := tk' }) :
    wpAny (model PySem.Challenge.rw_pq0681_01.row.prog w) A (setAttr (.ref t) (Str.ofString "log_nodes") v) Q E s := by
  have hT' := hT
  obtain ⟨hTi, ⟨oT, ⟨⟩, hTd⟩, _⟩ := hT
  have fill : PySem.Challenge.rw_pq0681_01.row.prog = PySem.Challenge.rw_pq0681_01.row.prog ∧ (Mine.hd.heap_1 w.params).In h₀ := by
    k_fill
    exact ⟨rfl, X⟩
  refine' set_dictP F X N (.of_news N hTi hTd) rfl ?k4 ?k5 ?k6 ?k7 ?k8 ?k9 hTd ?k10 ?_
  case k4 => k_is
  case k5 => k_is
  case k6 => k_is
  case k7 => k_is
  case k8 => k_get
  case k9 => k_put
  case k10 => exact (by decide : 10 ≤ 1000)
  intro h' F' N'
  have q := fun o ho => hT'.put_d (o := o) (z := T.size) (f := T.free) N ho
  exact h _ _ _ F' N' (q _ (TabDict.mk ..)).1 (q _ (TabDict.mk ..)).2
set_option maxRecDepth 100000 in
set_option maxHeartbeats 8000000 in
theorem set_array (F : Fr h₀ L s.heap m) (X : (Mine.hd.heap_1 w.params).In h₀) (N : News h₀ L s.heap news) (hT : TabIn news t Y T) {a : Addr}
    (h : ∀ h' tk' o, Fr h₀ L h' m → News h₀ L h' (put Y.d o news) → TabDict a Y.nl T.size T.free o → Q () { s with heap := h', toks := tk' }) :
    wpAny (model PySem.Challenge.rw_pq0681_01.row.prog w) A (setAttr (.ref t) (Str.ofString "array") (.ref a)) Q E s := by
  obtain ⟨hTi, ⟨oT, ⟨⟩, hTd⟩, _⟩ := hT
  have fill : PySem.Challenge.rw_pq0681_01.row.prog = PySem.Challenge.rw_pq0681_01.row.prog ∧ (Mine.hd.heap_1 w.params).In h₀ := by
    k_fill
    exact ⟨rfl, X⟩
  refine' set_dictP F X N (.of_news N hTi hTd) rfl ?k4 ?k5 ?k6 ?k7 ?k8 ?k9 hTd ?k10 ?_
  case k4 => k_is
  case k5 => k_is
  case k6 => k_is
  case k7 => k_is
  case k8 => k_get
  case k9 => k_put
  case k10 => exact (by decide : 10 ≤ 1000)
  intro h' F' N'
  exact h _ _ _ F' N' (TabDict.mk ..)
set_option maxRecDepth 100000 in
set_option maxHeartbeats 8000000 in
theorem set_nodes (F : Fr h₀ L s.heap m) (X : (Mine.hd.heap_1 w.params).In h₀) (N : News h₀ L s.heap news) (hT : TabIn news t Y T) {a : Addr}
    (h : ∀ h' tk' o, Fr h₀ L h' m → News h₀ L h' (put Y.d o news) → TabDict Y.al a T.size T.free o → Q () { s with heap := h', toks := tk' }) :
    wpAny (model PySem.Challenge.rw_pq0681_01.row.prog w) A (setAttr (.ref t) (Str.ofString "nodes") (.ref a)) Q E s := by
  obtain ⟨hTi, ⟨oT, ⟨⟩, hTd⟩, _⟩ := hT
  have fill : PySem.Challenge.rw_pq0681_01.row.prog = PySem.Challenge.rw_pq0681_01.row.prog ∧ (Mine.hd.heap_1 w.params).In h₀ := by
    k_fill
    exact ⟨rfl, X⟩
  refine' set_dictP F X N (.of_news N hTi hTd) rfl ?k4 ?k5 ?k6 ?k7 ?k8 ?k9 hTd ?k10 ?_
  case k4 => k_is
  case k5 => k_is
  case k6 => k_is
  case k7 => k_is
  case k8 => k_get
  case k9 => k_put
  case k10 => exact (by decide : 10 ≤ 1000)
  intro h' F' N'
  exact h _ _ _ F' N' (TabDict.mk ..)
set_option maxRecDepth 100000 in
set_option maxHeartbeats 8000000 in
theorem set_key (F : Fr h₀ L s.heap m) (X : (Mine.hd.heap_1 w.params).In h₀) (N : News h₀ L s.heap news) (hT : TabIn news t Y T) {i : Nat} {p : Addr × Addr} {x : PNode} (hp : Y.ns[i]? = some p) (hx : T.nodes[i]? = some x) {kv : Value} {k : Option PKey} (hkv : KV kv k)
    (h : ∀ h' tk' n', Fr h₀ L h' m → News h₀ L h' n' → TabIn n' t Y { T with nodes := T.nodes.set i { x with key := k } } → Keeps Y news n' → Q () { s with heap := h', toks := tk' }) :
    wpAny (model PySem.Challenge.rw_pq0681_01.row.prog w) A (setAttr (.ref p.1) (Str.ofString "key") kv) Q E s := by
  have hT' := hT
  obtain ⟨hNi, hv0, kv0, oN, hkv0, ⟨⟩, hNd⟩ := hT.node i p x hp hx
  have fill : PySem.Challenge.rw_pq0681_01.row.prog = PySem.Challenge.rw_pq0681_01.row.prog ∧ (Mine.hd.heap_1 w.params).In h₀ := by
    k_fill
    exact ⟨rfl, X⟩
  refine' set_dictP F X N (.of_news N hNi hNd) rfl ?k4 ?k5 ?k6 ?k7 ?k8 ?k9 hNd ?k10 ?_
  case k4 => k_is
  case k5 => k_is
  case k6 => k_is
  case k7 => k_is
  case k8 => k_get
  case k9 => k_put
  case k10 => exact (by decide : 3 ≤ 1000)
  intro h' F' N'
  have q := fun o ho => hT'.put_n N hp (x := { x with key := k }) (kv := kv) (o := o) hkv hv0 ho
  exact h _ _ _ F' N' (q _ (NodeDict.mk ..)).1 (q _ (NodeDict.mk ..)).2
set_option maxRecDepth 100000 in
set_option maxHeartbeats 8000000 in
theorem set_value (F : Fr h₀ L s.heap m) (X : (Mine.hd.heap_1 w.params).In h₀) (N : News h₀ L s.heap news) (hT : TabIn news t Y T) {i : Nat} {p : Addr × Addr} {x : PNode} (hp : Y.ns[i]? = some p) (hx : T.nodes[i]? = some x) {v : Value} (hv : handedIn v = true)
    (h : ∀ h' tk' n', Fr h₀ L h' m → News h₀ L h' n' → TabIn n' t Y { T with nodes := T.nodes.set i { x with val := v } } → Keeps Y news n' → Q () { s with heap := h', toks := tk' }) :
    wpAny (model PySem.Challenge.rw_pq0681_01.row.prog w) A (setAttr (.ref p.1) (Str.ofString "value") v) Q E s := by
  have hT' := hT
  obtain ⟨hNi, hv0, kv0, oN, hkv0, ⟨⟩, hNd⟩ := hT.node i p x hp hx
  have fill : PySem.Challenge.rw_pq0681_01.row.prog = PySem.Challenge.rw_pq0681_01.row.prog ∧ (Mine.hd.heap_1 w.params).In h₀ := by
    k_fill
    exact ⟨rfl, X⟩
  refine' set_dictP F X N (.of_news N hNi hNd) rfl ?k4 ?k5 ?k6 ?k7 ?k8 ?k9 hNd ?k10 ?_
  case k4 => k_is
  case k5 => k_is
  case k6 => k_is
  case k7 => k_is
  case k8 => k_get
  case k9 => k_put
  case k10 => exact (by decide : 3 ≤ 1000)
  intro h' F' N'
  have q := fun o ho => hT'.put_n N hp (x := { x with val := v }) (kv := kv0) (o := o) hkv0 hv ho
  exact h _ _ _ F' N' (q _ (NodeDict.mk ..)).1 (q _ (NodeDict.mk ..)).2
set_option maxRecDepth 100000 in
set_option maxHeartbeats 8000000 in
theorem set_next (F : Fr h₀ L s.heap m) (X : (Mine.hd.heap_1 w.params).In h₀) (N : News h₀ L s.heap news) (hT : TabIn news t Y T) {i : Nat} {p : Addr × Addr} {x : PNode} (hp : Y.ns[i]? = some p) (hx : T.nodes[i]? = some x) {j : Int} {tk : Tok}
    (h : ∀ h' tk' n', Fr h₀ L h' m → News h₀ L h' n' → TabIn n' t Y { T with nodes := T.nodes.set i { x with next := j } } → Keeps Y news n' → Q () { s with heap := h', toks := tk' }) :
    wpAny (model PySem.Challenge.rw_pq0681_01.row.prog w) A (setAttr (.ref p.1) (Str.ofString "next") (.int j tk)) Q E s := by
  have hT' := hT
  obtain ⟨hNi, hv0, kv0, oN, hkv0, ⟨⟩, hNd⟩ := hT.node i p x hp hx
  have fill : PySem.Challenge.rw_pq0681_01.row.prog = PySem.Challenge.rw_pq0681_01.row.prog ∧ (Mine.hd.heap_1 w.params).In h₀ := by
    k_fill
    exact ⟨rfl, X⟩
  refine' set_dictP F X N (.of_news N hNi hNd) rfl ?k4 ?k5 ?k6 ?k7 ?k8 ?k9 hNd ?k10 ?_
  case k4 => k_is
  case k5 => k_is
  case k6 => k_is
  case k7 => k_is
  case k8 => k_get
  case k9 => k_put
  case k10 => exact (by decide : 3 ≤ 1000)
  intro h' F' N'
  have q := fun o ho => hT'.put_n N hp (x := { x with next := j }) (kv := kv0) (o := o) hkv0 hv0 ho
  exact h _ _ _ F' N' (q _ (NodeDict.mk ..)).1 (q _ (NodeDict.mk ..)).2
end

end
section
theorem wd_P9_0 : True := by
  k_with_none
  exact trivial
theorem wd_P9_12 : True := by
  k_with "KD" => first | exact dlt (by assumption) (by first | decide | omega) | exact dlt1 (by assumption) (by first | decide | omega) | exact dlt0 (by assumption) | ktr_room
  k_with "KU" => first | exact ult (by assumption) (by first | decide | omega) | ktr_units
  k_with "ENTER" => (refine' enter_ ?zqk1 ?zqk2 ?zqk3 ?zqk4 ?zqk5 ?zqkA ?zqkF ?zqkK ?zqk6 ?zqk7 ?zqk8 ?zqk9 ?zqkB ?_ ?zqc2 ?zqc3 ?zqc4 ?zqc5; (case zqkA => exact rfl); (case zqkF => exact rfl); (case zqkK => first | exact rfl | assumption); (case zqk1 => k_asm); (case zqk2 => k_asm); (case zqk3 => k_asm); (case zqk4 => k_asm); (case zqk5 => k_asm); (case zqk6 => k_is); (case zqk7 => k_is); (case zqk8 => walk_at "KD"); (case zqk9 => first | exact BindsTo.of_eq rfl | exact binds_K (by k_in) rfl (by k_is) rfl rfl rfl | fail "ENTER: no rule for these arguments"); (case zqc5 => decide); (case zqkB => exact locs rfl); (case zqc2 => exact rfl); (case zqc3 => exact rfl); (case zqc4 => exact rfl); k_whole; intro g' L' h' tk' FG' mm F' N' B' X' T' qk ek)
  k_with "call ref" => (k_here; k_dflt (first | (refine' call_cls0 ?zqk1 ?zqk2 ?zqk3 ?zqk4 ?zqk5 ?_; (case zqk1 => k_asm); (case zqk2 => k_asm); (case zqk3 => k_asm); (case zqk4 => k_is); (case zqk5 => k_is); k_whole; intro x' d' h' F' N' l1 l2; (try k_lt l1); (try k_lt2 l2); (try k_sweep)) | (refine' call_cls ?zqk1 ?zqk2 ?zqk3 ?zqk4 ?zqk5 ?zqk6 ?_; (case zqk1 => k_asm); (case zqk2 => k_asm); (case zqk3 => k_asm); (case zqk4 => k_is); (case zqk5 => k_is); (case zqk6 => k_is); k_whole; intro x' d' h' F' N' l1 l2; (try k_lt l1); (try k_lt2 l2); (try k_sweep); walk_at "ENTER") | (refine' call_meth ?zqk1 ?zqk2 ?_; (case zqk1 => k_asm); (case zqk2 => k_mem); k_whole; walk_at "ENTER") | (refine wpAny_call ?_; walk_at "ENTER")))
  k_with "call builtin:len" => (k_here; (with_reducible show wpAny _ _ (call (Value.builtin "len") [Value.ref _]) _ _ _); k_dflt (refine' kst_len ?zqk1 ?zqk2 ?zqk3 ?zqk4 ?_; (case zqk1 => k_asm); (case zqk2 => k_mem); (case zqk3 => first | assumption | exact rfl); (case zqk4 => omega); k_whole))
  k_with "WhileStep2" => (first | (with_reducible show WhileStep2 _ _ _ _ _ _ (Flow.ret _) _) | (with_reducible show WhileStep2 _ _ _ _ _ _ Flow.brk _)); (dsimp only [WhileStep2])
  k_with "execs cons" => (k_here; refine wpAny_execs_cons (foldQ ?_); intro qs)
  k_with "storeName" => (k_here; (try dsimp only); k_dflt (refine' store_ ?zqF ?zqN ?_ ?zqa ?zqb; (case zqF => k_asm); (case zqN => k_asm); (case zqa => first | exact rfl | assumption); (case zqb => rfl); k_whole; intro h' tk' mm F' N'; (try k_sweep)))
  k_with "exec While Compare cons nil" => refine Halt.go ?_
  k_with "pyIter ref" => refine Halt.go ?_
  k_with "call type:enumerate" => refine Halt.go ?_
  k_with "KswEnd" => refine Halt.at (k := "KswEnd") (by assumption) ?_
  k_with "subscriptTail" => refine Halt.at (k := "subscriptTail") (by assumption) ?_
  k_with "eval ListComp" => refine Halt.at (k := "eval ListComp") (by assumption) ?_
  k_with "CompSrc" => refine Halt.at (k := "CompSrc") (by assumption) ?_
  k_with "CompEnd" => refine Halt.at (k := "CompEnd") (by assumption) ?_
  k_with "call ref" => refine Halt.at (k := "call ref") (by assumption) ?_
  k_with "call builtin:sorted" => refine Halt.at (k := "call builtin:sorted") (by assumption) ?_
  k_with "call builtin:repr" => refine Halt.at (k := "call builtin:repr") (by assumption) ?_
  k_with "unpackItems ref" => refine Halt.at (k := "unpackItems ref") (by assumption) ?_
  k_with "compareOp Eq ref ref" => refine Halt.at (k := "compareOp Eq ref ref") (by assumption) ?_
  k_with "call type:str" => refine Halt.at (k := "call type:str") (by assumption) ?_
  exact trivial

section
variable {w : World} {A : Around} {E : Value → Shared → Prop} {s : Shared} {h₀ : Heap} {L t : Addr} {m : Str → Option Value} {news : Led} {Y : Lay} {T : Tab} {Q : Value → Shared → Prop} {expr : Bool}
noncomputable def tabAttrs : List String := ["number", "mark", "size", "meta", "flags", "weak", "array", "nodes", "log_nodes", "free"]
theorem TabDict.noAttr {al nl : Addr} {z f : Int} {es : List DictEntry} {n : Nat} (h : TabDict al nl z f (dictOf es n)) {name : Str} (hn : (tabAttrs.all fun a => !(Str.ofString a == name)) = true) : getL name es = some none := by
  cases h
  simp only [tabAttrs, List.all_cons, List.all_nil, Bool.and_true, Bool.and_eq_true, Bool.not_eq_true'] at hn
  obtain ⟨h1, h2, h3, h4, h5, h6, h7, h8, h9, h10⟩ := hn
  simp [getL, List.find?, Value.isStr, h1, h2, h3, h4, h5, h6, h7, h8, h9, h10, DictEntry.refKey]
theorem tab_meth {pl : Sem Bool} {Q : Value × List Value → Shared → Prop} {name : Str} {f : Addr} (F : Fr h₀ L s.heap m) (X : (Mine.hd.heap_1 w.params).In h₀) (N : News h₀ L s.heap news) (hT : TabIn news t Y T) (hg : plainGet (Mine.hd.heap_1 w.params) 408 name = true)
    (hf : findIn (Mine.hd.heap_1 w.params) (.ref 408) name = some (some (.ref f))) (ht : isFn (Mine.hd.heap_1 w.params) (.ref f) = true) (hn : (tabAttrs.all fun a => !(Str.ofString a == name)) = true) (h : Q (.ref f, [.ref t]) s) :
    wpAny (model PySem.Challenge.rw_pq0681_01.row.prog w) A (getMethod (.ref t) name pl) Q E s := by
  obtain ⟨hTi, ⟨oT, ho, hTd⟩, _⟩ := hT
  have ho' := ho
  cases ho
  exact method_inst F X (.of_news N hTi hTd) hg hf ht (ho'.noAttr hn) h
set_option maxRecDepth 100000 in
set_option maxHeartbeats 8000000 in
theorem get_free (F : Fr h₀ L s.heap m) (X : (Mine.hd.heap_1 w.params).In h₀) (N : News h₀ L s.heap news) (hT : TabIn news t Y T)
    (h : ∀ tk tk', Q (.int T.free tk) { s with toks := tk' }) :
    wpAny (model PySem.Challenge.rw_pq0681_01.row.prog w) A (getAttr (.ref t) (Str.ofString "free") expr) Q E s := by
  obtain ⟨hTi, ⟨oT, ⟨⟩, hTd⟩, _⟩ := hT
  have fill : PySem.Challenge.rw_pq0681_01.row.prog = PySem.Challenge.rw_pq0681_01.row.prog ∧ (Mine.hd.heap_1 w.params).In h₀ := by
    k_fill
    exact ⟨rfl, X⟩
  refine' get_own F X (.of_news N hTi hTd) ?k4 ?k5 ?k6 ?k7 ?k8 ?k9 ?_
  case k4 => k_is
  case k5 => k_is
  case k6 => k_is
  case k7 => k_is
  case k8 => k_get
  case k9 => k_handed
  exact h _ _
set_option maxRecDepth 100000 in
set_option maxHeartbeats 8000000 in
theorem get_size (F : Fr h₀ L s.heap m) (X : (Mine.hd.heap_1 w.params).In h₀) (N : News h₀ L s.heap news) (hT : TabIn news t Y T)
    (h : ∀ tk tk', Q (.int T.size tk) { s with toks := tk' }) :
    wpAny (model PySem.Challenge.rw_pq0681_01.row.prog w) A (getAttr (.ref t) (Str.ofString "size") expr) Q E s := by
  obtain ⟨hTi, ⟨oT, ⟨⟩, hTd⟩, _⟩ := hT
  have fill : PySem.Challenge.rw_pq0681_01.row.prog = PySem.Challenge.rw_pq0681_01.row.prog ∧ (Mine.hd.heap_1 w.params).In h₀ := by
    k_fill
    exact ⟨rfl, X⟩
  refine' get_own F X (.of_news N hTi hTd) ?k4 ?k5 ?k6 ?k7 ?k8 ?k9 ?_
  case k4 => k_is
  case k5 => k_is
  case k6 => k_is
  case k7 => k_is
  case k8 => k_get
  case k9 => k_handed
  exact h _ _
set_option maxRecDepth 100000 in
set_option maxHeartbeats 8000000 in
theorem get_array (F : Fr h₀ L s.heap m) (X : (Mine.hd.heap_1 w.params).In h₀) (N : News h₀ L s.heap news) (hT : TabIn news t Y T)
    (h : ∀ tk', Q (.ref Y.al) { s with toks := tk' }) :
    wpAny (model PySem.Challenge.rw_pq0681_01.row.prog w) A (getAttr (.ref t) (Str.ofString "array") expr) Q E s := by
  obtain ⟨hTi, ⟨oT, ⟨⟩, hTd⟩, _⟩ := hT
  have fill : PySem.Challenge.rw_pq0681_01.row.prog = PySem.Challenge.rw_pq0681_01.row.prog ∧ (Mine.hd.heap_1 w.params).In h₀ := by
    k_fill
    exact ⟨rfl, X⟩
  refine' get_own F X (.of_news N hTi hTd) ?k4 ?k5 ?k6 ?k7 ?k8 ?k9 ?_
  case k4 => k_is
  case k5 => k_is
  case k6 => k_is
  case k7 => k_is
  case k8 => k_get
  case k9 => k_handed
  exact h _
set_option maxRecDepth 100000 in
set_option maxHeartbeats 8000000 in
theorem get_nodes (F : Fr h₀ L s.heap m) (X : (Mine.hd.heap_1 w.params).In h₀) (N : News h₀ L s.heap news) (hT : TabIn news t Y T)
    (h : ∀ tk', Q (.ref Y.nl) { s with toks := tk' }) :
    wpAny (model PySem.Challenge.rw_pq0681_01.row.prog w) A (getAttr (.ref t) (Str.ofString "nodes") expr) Q E s := by
  obtain ⟨hTi, ⟨oT, ⟨⟩, hTd⟩, _⟩ := hT
  have fill : PySem.Challenge.rw_pq0681_01.row.prog = PySem.Challenge.rw_pq0681_01.row.prog ∧ (Mine.hd.heap_1 w.params).In h₀ := by
    k_fill
    exact ⟨rfl, X⟩
  refine' get_own F X (.of_news N hTi hTd) ?k4 ?k5 ?k6 ?k7 ?k8 ?k9 ?_
  case k4 => k_is
  case k5 => k_is
  case k6 => k_is
  case k7 => k_is
  case k8 => k_get
  case k9 => k_handed
  exact h _
set_option maxRecDepth 100000 in
set_option maxHeartbeats 8000000 in
theorem get_key_none (F : Fr h₀ L s.heap m) (X : (Mine.hd.heap_1 w.params).In h₀) (N : News h₀ L s.heap news) (hT : TabIn news t Y T) {i : Nat} {p : Addr × Addr} {x : PNode} (hp : Y.ns[i]? = some p) (hx : T.nodes[i]? = some x) (hk : x.key = none)
    (h : ∀ tk', Q .none { s with toks := tk' }) :
    wpAny (model PySem.Challenge.rw_pq0681_01.row.prog w) A (getAttr (.ref p.1) (Str.ofString "key") expr) Q E s := by
  obtain ⟨hNi, hv0, kv0, oN, hkv0, ⟨⟩, hNd⟩ := hT.node i p x hp hx
  rw [hk] at hkv0; cases hkv0
  have fill : PySem.Challenge.rw_pq0681_01.row.prog = PySem.Challenge.rw_pq0681_01.row.prog ∧ (Mine.hd.heap_1 w.params).In h₀ := by
    k_fill
    exact ⟨rfl, X⟩
  refine' get_own F X (.of_news N hNi hNd) ?k4 ?k5 ?k6 ?k7 ?k8 ?k9 ?_
  case k4 => k_is
  case k5 => k_is
  case k6 => k_is
  case k7 => k_is
  case k8 => k_get
  case k9 => k_handed
  exact h _
set_option maxRecDepth 100000 in
set_option maxHeartbeats 8000000 in
theorem get_key_some (F : Fr h₀ L s.heap m) (X : (Mine.hd.heap_1 w.params).In h₀) (N : News h₀ L s.heap news) (hT : TabIn news t Y T) {i : Nat} {p : Addr × Addr} {x : PNode} (hp : Y.ns[i]? = some p) (hx : T.nodes[i]? = some x) {k : PKey} (hk : x.key = some k)
    (h : ∀ kv tk', KV kv (some k) → Q kv { s with toks := tk' }) :
    wpAny (model PySem.Challenge.rw_pq0681_01.row.prog w) A (getAttr (.ref p.1) (Str.ofString "key") expr) Q E s := by
  obtain ⟨hNi, hv0, kv0, oN, hkv0, ⟨⟩, hNd⟩ := hT.node i p x hp hx
  rw [hk] at hkv0
  have fill : PySem.Challenge.rw_pq0681_01.row.prog = PySem.Challenge.rw_pq0681_01.row.prog ∧ (Mine.hd.heap_1 w.params).In h₀ := by
    k_fill
    exact ⟨rfl, X⟩
  refine' get_own F X (.of_news N hNi hNd) ?k4 ?k5 ?k6 ?k7 ?k8 ?k9 ?_
  case k4 => k_is
  case k5 => k_is
  case k6 => k_is
  case k7 => k_is
  case k8 => k_get
  case k9 => cases hkv0 <;> rfl
  exact h _ _ hkv0
set_option maxRecDepth 100000 in
set_option maxHeartbeats 8000000 in
theorem get_key_any (F : Fr h₀ L s.heap m) (X : (Mine.hd.heap_1 w.params).In h₀) (N : News h₀ L s.heap news) (hT : TabIn news t Y T) {i : Nat} {p : Addr × Addr} {x : PNode} (hp : Y.ns[i]? = some p) (hx : T.nodes[i]? = some x) 
    (h : ∀ kv tk', KV kv x.key → Q kv { s with toks := tk' }) :
    wpAny (model PySem.Challenge.rw_pq0681_01.row.prog w) A (getAttr (.ref p.1) (Str.ofString "key") expr) Q E s := by
  obtain ⟨hNi, hv0, kv0, oN, hkv0, ⟨⟩, hNd⟩ := hT.node i p x hp hx
  skip
  have fill : PySem.Challenge.rw_pq0681_01.row.prog = PySem.Challenge.rw_pq0681_01.row.prog ∧ (Mine.hd.heap_1 w.params).In h₀ := by
    k_fill
    exact ⟨rfl, X⟩
  refine' get_own F X (.of_news N hNi hNd) ?k4 ?k5 ?k6 ?k7 ?k8 ?k9 ?_
  case k4 => k_is
  case k5 => k_is
  case k6 => k_is
  case k7 => k_is
  case k8 => k_get
  case k9 => (generalize x.key = xk at hkv0; cases hkv0 <;> rfl)
  exact h _ _ hkv0
set_option maxRecDepth 100000 in
set_option maxHeartbeats 8000000 in
theorem get_value (F : Fr h₀ L s.heap m) (X : (Mine.hd.heap_1 w.params).In h₀) (N : News h₀ L s.heap news) (hT : TabIn news t Y T) {i : Nat} {p : Addr × Addr} {x : PNode} (hp : Y.ns[i]? = some p) (hx : T.nodes[i]? = some x)
    (h : ∀ tk', Q x.val { s with toks := tk' }) :
    wpAny (model PySem.Challenge.rw_pq0681_01.row.prog w) A (getAttr (.ref p.1) (Str.ofString "value") expr) Q E s := by
  obtain ⟨hNi, hv0, kv0, oN, hkv0, ⟨⟩, hNd⟩ := hT.node i p x hp hx
  skip
  have fill : PySem.Challenge.rw_pq0681_01.row.prog = PySem.Challenge.rw_pq0681_01.row.prog ∧ (Mine.hd.heap_1 w.params).In h₀ := by
    k_fill
    exact ⟨rfl, X⟩
  refine' get_own F X (.of_news N hNi hNd) ?k4 ?k5 ?k6 ?k7 ?k8 ?k9 ?_
  case k4 => k_is
  case k5 => k_is
  case k6 => k_is
  case k7 => k_is
  case k8 => k_get
  case k9 => exact hv0
  exact h _
set_option maxRecDepth 100000 in
set_option maxHeartbeats 8000000 in
theorem get_next (F : Fr h₀ L s.heap m) (X : (Mine.hd.heap_1 w.params).In h₀) (N : News h₀ L s.heap news) (hT : TabIn news t Y T) {i : Nat} {p : Addr × Addr} {x : PNode} (hp : Y.ns[i]? = some p) (hx : T.nodes[i]? = some x) 
    (h : ∀ tk tk', Q (.int x.next tk) { s with toks := tk' }) :
    wpAny (model PySem.Challenge.rw_pq0681_01.row.prog w) A (getAttr (.ref p.1) (Str.ofString "next") expr) Q E s := by
  obtain ⟨hNi, hv0, kv0, oN, hkv0, ⟨⟩, hNd⟩ := hT.node i p x hp hx
  skip
  have fill : PySem.Challenge.rw_pq0681_01.row.prog = PySem.Challenge.rw_pq0681_01.row.prog ∧ (Mine.hd.heap_1 w.params).In h₀ := by
    k_fill
    exact ⟨rfl, X⟩
  refine' get_own F X (.of_news N hNi hNd) ?k4 ?k5 ?k6 ?k7 ?k8 ?k9 ?_
  case k4 => k_is
  case k5 => k_is
  case k6 => k_is
  case k7 => k_is
  case k8 => k_get
  case k9 => k_handed
  exact h _ _

theorem len_nodes (N : News h₀ L s.heap news) (hT : TabIn news t Y T) (h : ∀ tk tk', Q (.int (T.nodes.length : Int) tk) { s with toks := tk' }) :
    wpAny (model PySem.Challenge.rw_pq0681_01.row.prog w) A (call (.builtin "len") [.ref Y.nl]) Q E s := by
  obtain ⟨c, hn⟩ := hT.nds
  have := hT.nsz
  exact kst_len N hn (by rw [List.length_map]; exact hT.len) (by omega) (h _ _)
theorem len_arr (N : News h₀ L s.heap news) (hT : TabIn news t Y T) (h : ∀ tk tk', Q (.int (T.arr.length : Int) tk) { s with toks := tk' }) :
    wpAny (model PySem.Challenge.rw_pq0681_01.row.prog w) A (call (.builtin "len") [.ref Y.al]) Q E s := by
  obtain ⟨c, hn⟩ := hT.arr
  have := hT.asz
  exact kst_len N hn rfl (by omega) (h _ _)
theorem item_node {value slice : PySem.Expr} {k : Int} {u : Tok} {i : Nat} {p : Addr × Addr} (N : News h₀ L s.heap news) (hT : TabIn news t Y T) (hp : Y.ns[i]? = some p) (hi : k = (i : Int)) (h : Q (.ref p.1) s)
    (hs : subscripted slice false (.ref Y.nl) (.int k u) = operate [.ref Y.nl, .int k u] (getItem (.ref Y.nl) (.int k u)) := by with_unfolding_all rfl) :
    wpAny (model PySem.Challenge.rw_pq0681_01.row.prog w) A (subscriptTail value slice (.ref Y.nl) (.int k u)) Q E s := by
  obtain ⟨c, hn⟩ := hT.nds
  have h1 := (List.getElem?_eq_some_iff.mp hp).1
  have h2 := hT.len
  have h3 := hT.nsz
  subst hi
  exact itemP N hn (by omega) (by omega) (by rw [Int.toNat_natCast, List.getElem?_map, hp]; rfl) h hs
theorem item_arr {value slice : PySem.Expr} {k : Int} {u : Tok} {i : Nat} {v : Value} (N : News h₀ L s.heap news) (hT : TabIn news t Y T) (hx : T.arr[i]? = some v) (hi : k = (i : Int)) (h : Q v s)
    (hs : subscripted slice false (.ref Y.al) (.int k u) = operate [.ref Y.al, .int k u] (getItem (.ref Y.al) (.int k u)) := by with_unfolding_all rfl) :
    wpAny (model PySem.Challenge.rw_pq0681_01.row.prog w) A (subscriptTail value slice (.ref Y.al) (.int k u)) Q E s := by
  obtain ⟨c, hn⟩ := hT.arr
  have h1 := (List.getElem?_eq_some_iff.mp hx).1
  have h3 := hT.asz
  subst hi
  exact itemP N hn (by omega) (by omega) (by rw [Int.toNat_natCast]; exact hx) h hs
theorem set_arr {k : Int} {u : Tok} {v : Value} {Q : Unit → Shared → Prop} (F : Fr h₀ L s.heap m) (N : News h₀ L s.heap news) (hT : TabIn news t Y T) (h0 : 0 ≤ k) (h1 : k < T.arr.length)
    (h : ∀ h' n', Fr h₀ L h' m → News h₀ L h' n' → TabIn n' t Y { T with arr := T.arr.set k.toNat v } → Keeps Y news n' → Q () { s with heap := h' }) :
    wpAny (model PySem.Challenge.rw_pq0681_01.row.prog w) A (setItem (.ref Y.al) (.int k u) v) Q E s := by
  obtain ⟨c, hn⟩ := hT.arr
  have h3 := hT.asz
  have q := hT.put_a N (vs := T.arr.set k.toNat v) (c := c) (by simpa using h3)
  exact setAtP F N hn h0 h1 (by omega) fun h' F' N' => h _ _ F' N' q.1 q.2
theorem app_arr {v : Value} (F : Fr h₀ L s.heap m) (N : News h₀ L s.heap news) (hT : TabIn news t Y T) (h1 : T.arr.length + 1 < 2 ^ 24)
    (h : ∀ h' n', Fr h₀ L h' m → News h₀ L h' n' → TabIn n' t Y { T with arr := T.arr ++ [v] } → Keeps Y news n' → Q .none { s with heap := h' }) :
    wpAny (model PySem.Challenge.rw_pq0681_01.row.prog w) A (call (.builtin "list.append") [.ref Y.al, v]) Q E s := by
  obtain ⟨c, hn⟩ := hT.arr
  have q := hT.put_a N (vs := T.arr ++ [v]) (c := c + 1) (by simpa using h1)
  exact appendP F N hn (by rw [sizeLine_eq]; omega) fun h' F' N' => h _ _ F' N' q.1 q.2
theorem kv_isnone {kv : Value} {k : PKey} {A : Around} (hk : KV kv (some k)) (h : Q (.bool false) s) : wpAny (model PySem.Challenge.rw_pq0681_01.row.prog w) A (compareOp .Is kv .none) Q E s := by
  cases hk <;> exact fun _ _ _ => h
theorem is_eq {v : Value} {A : Around} (hv : v = .none) (h : Q (.bool true) s) : wpAny (model PySem.Challenge.rw_pq0681_01.row.prog w) A (compareOp .Is v .none) Q E s := by
  subst hv; exact fun _ _ _ => h
theorem is_ne {v : Value} {A : Around} (hv : v ≠ .none) (h : Q (.bool false) s) : wpAny (model PySem.Challenge.rw_pq0681_01.row.prog w) A (compareOp .Is v .none) Q E s := by
  cases v <;> first | exact absurd rfl hv | exact fun _ _ _ => h
theorem isnot_eq {v : Value} {A : Around} (hv : v = .none) (h : Q (.bool false) s) : wpAny (model PySem.Challenge.rw_pq0681_01.row.prog w) A (compareOp .IsNot v .none) Q E s := by
  subst hv; exact fun _ _ _ => h
theorem isnot_ne {v : Value} {A : Around} (hv : v ≠ .none) (h : Q (.bool true) s) : wpAny (model PySem.Challenge.rw_pq0681_01.row.prog w) A (compareOp .IsNot v .none) Q E s := by
  cases v <;> first | exact absurd rfl hv | exact fun _ _ _ => h
end

end
section
theorem wd_P10_0 : True := by
  k_with_none
  exact trivial
theorem wd_P10_13 : True := by
  k_with "KD" => first | exact dlt (by assumption) (by first | decide | omega) | exact dlt1 (by assumption) (by first | decide | omega) | exact dlt0 (by assumption) | ktr_room
  k_with "KU" => first | exact ult (by assumption) (by first | decide | omega) | ktr_units
  k_with "ENTER" => (refine' enter_ ?zqk1 ?zqk2 ?zqk3 ?zqk4 ?zqk5 ?zqkA ?zqkF ?zqkK ?zqk6 ?zqk7 ?zqk8 ?zqk9 ?zqkB ?_ ?zqc2 ?zqc3 ?zqc4 ?zqc5; (case zqkA => exact rfl); (case zqkF => exact rfl); (case zqkK => first | exact rfl | assumption); (case zqk1 => k_asm); (case zqk2 => k_asm); (case zqk3 => k_asm); (case zqk4 => k_asm); (case zqk5 => k_asm); (case zqk6 => k_is); (case zqk7 => k_is); (case zqk8 => walk_at "KD"); (case zqk9 => first | exact BindsTo.of_eq rfl | exact binds_K (by k_in) rfl (by k_is) rfl rfl rfl | fail "ENTER: no rule for these arguments"); (case zqc5 => decide); (case zqkB => exact locs rfl); (case zqc2 => exact rfl); (case zqc3 => exact rfl); (case zqc4 => exact rfl); k_whole; intro g' L' h' tk' FG' mm F' N' B' X' T' qk ek)
  k_with "call ref" => (k_here; k_dflt (first | (refine' call_cls0 ?zqk1 ?zqk2 ?zqk3 ?zqk4 ?zqk5 ?_; (case zqk1 => k_asm); (case zqk2 => k_asm); (case zqk3 => k_asm); (case zqk4 => k_is); (case zqk5 => k_is); k_whole; intro x' d' h' F' N' l1 l2; (try k_lt l1); (try k_lt2 l2); (try k_sweep)) | (refine' call_cls ?zqk1 ?zqk2 ?zqk3 ?zqk4 ?zqk5 ?zqk6 ?_; (case zqk1 => k_asm); (case zqk2 => k_asm); (case zqk3 => k_asm); (case zqk4 => k_is); (case zqk5 => k_is); (case zqk6 => k_is); k_whole; intro x' d' h' F' N' l1 l2; (try k_lt l1); (try k_lt2 l2); (try k_sweep); walk_at "ENTER") | (refine' call_meth ?zqk1 ?zqk2 ?_; (case zqk1 => k_asm); (case zqk2 => k_mem); k_whole; walk_at "ENTER") | (refine wpAny_call ?_; walk_at "ENTER")))
  k_with "call builtin:len" => (k_here; (with_reducible show wpAny _ _ (call (Value.builtin "len") [Value.ref _]) _ _ _); k_dflt (refine' kst_len ?zqk1 ?zqk2 ?zqk3 ?zqk4 ?_; (case zqk1 => k_asm); (case zqk2 => k_mem); (case zqk3 => first | assumption | exact rfl); (case zqk4 => omega); k_whole))
  k_with "WhileStep2" => (first | (with_reducible show WhileStep2 _ _ _ _ _ _ (Flow.ret _) _) | (with_reducible show WhileStep2 _ _ _ _ _ _ Flow.brk _)); (dsimp only [WhileStep2])
  k_with "execs cons" => (k_here; refine wpAny_execs_cons (foldQ ?_); intro qs)
  k_with "storeName" => (k_here; (try dsimp only); k_dflt (refine' store_ ?zqF ?zqN ?_ ?zqa ?zqb; (case zqF => k_asm); (case zqN => k_asm); (case zqa => first | exact rfl | assumption); (case zqb => rfl); k_whole; intro h' tk' mm F' N'; (try k_sweep)))
  k_with "exec While Compare cons nil" => refine Halt.go ?_
  k_with "pyIter ref" => refine Halt.go ?_
  k_with "call type:enumerate" => refine Halt.go ?_
  k_with "KswEnd" => refine Halt.at (k := "KswEnd") (by assumption) ?_
  k_with "subscriptTail" => refine Halt.at (k := "subscriptTail") (by assumption) ?_
  k_with "eval ListComp" => refine Halt.at (k := "eval ListComp") (by assumption) ?_
  k_with "CompSrc" => refine Halt.at (k := "CompSrc") (by assumption) ?_
  k_with "CompEnd" => refine Halt.at (k := "CompEnd") (by assumption) ?_
  k_with "call ref" => refine Halt.at (k := "call ref") (by assumption) ?_
  k_with "call builtin:sorted" => refine Halt.at (k := "call builtin:sorted") (by assumption) ?_
  k_with "call builtin:repr" => refine Halt.at (k := "call builtin:repr") (by assumption) ?_
  k_with "unpackItems ref" => refine Halt.at (k := "unpackItems ref") (by assumption) ?_
  k_with "compareOp Eq ref ref" => refine Halt.at (k := "compareOp Eq ref ref") (by assumption) ?_
  k_with "call type:str" => refine Halt.at (k := "call type:str") (by assumption) ?_
  k_with "K4" => ((case zqk1 => k_asm); (case zqk2 => k_asm); (case zqk3 => k_asm); (case zqk4 => k_asm))
  k_with "K56" => ((case zqk5 => first | assumption | (with_unfolding_all assumption)); (case zqk6 => first | assumption | (with_unfolding_all assumption)))
  k_with "KN" => (k_whole; intro h' tj' n' F' N' hT' hK'; (try dsimp only); (try k_sweep))
  k_with "getAttr ref" => (k_here; (with_reducible show wpAny _ _ (getAttr (Value.ref _) (PySem.Str.ofString "free") _) _ _ _); k_dflt (refine' get_free ?zqk1 ?zqk2 ?zqk3 ?zqk4 ?_; walk_at "K4"; k_whole; intro tk' tj'; (try dsimp only)))
  k_with "getAttr ref" => (k_here; (with_reducible show wpAny _ _ (getAttr (Value.ref _) (PySem.Str.ofString "size") _) _ _ _); k_dflt (refine' get_size ?zqk1 ?zqk2 ?zqk3 ?zqk4 ?_; walk_at "K4"; k_whole; intro tk' tj'; (try dsimp only)))
  k_with "getAttr ref" => (k_here; (with_reducible show wpAny _ _ (getAttr (Value.ref _) (PySem.Str.ofString "array") _) _ _ _); k_dflt (refine' get_array ?zqk1 ?zqk2 ?zqk3 ?zqk4 ?_; walk_at "K4"; k_whole; intro tj'; (try dsimp only)))
  k_with "getAttr ref" => (k_here; (with_reducible show wpAny _ _ (getAttr (Value.ref _) (PySem.Str.ofString "nodes") _) _ _ _); k_dflt (refine' get_nodes ?zqk1 ?zqk2 ?zqk3 ?zqk4 ?_; walk_at "K4"; k_whole; intro tj'; (try dsimp only)))
  k_with "getAttr ref" => (k_here; (with_reducible show wpAny _ _ (getAttr (Value.ref _) (PySem.Str.ofString "key") _) _ _ _); k_dflt (first | (refine' get_key_none ?zqk1 ?zqk2 ?zqk3 ?zqk4 ?zqk5 ?zqk6 ?zqk7 ?_; walk_at "K4"; walk_at "K56"; (case zqk7 => assumption); k_whole; intro tj'; (try dsimp only)) | (refine' get_key_some ?zqk1 ?zqk2 ?zqk3 ?zqk4 ?zqk5 ?zqk6 ?zqk7 ?_; walk_at "K4"; walk_at "K56"; (case zqk7 => assumption); k_whole; intro kv' tj' hkv'; (try dsimp only)) | (refine' get_key_any ?zqk1 ?zqk2 ?zqk3 ?zqk4 ?zqk5 ?zqk6 ?_; walk_at "K4"; walk_at "K56"; k_whole; intro kv' tj' hkv'; (try dsimp only))))
  k_with "getAttr ref" => (k_here; (with_reducible show wpAny _ _ (getAttr (Value.ref _) (PySem.Str.ofString "value") _) _ _ _); k_dflt (refine' get_value ?zqk1 ?zqk2 ?zqk3 ?zqk4 ?zqk5 ?zqk6 ?_; walk_at "K4"; walk_at "K56"; k_whole; intro tj'; (try dsimp only)))
  k_with "getAttr ref" => (k_here; (with_reducible show wpAny _ _ (getAttr (Value.ref _) (PySem.Str.ofString "next") _) _ _ _); k_dflt (refine' get_next ?zqk1 ?zqk2 ?zqk3 ?zqk4 ?zqk5 ?zqk6 ?_; walk_at "K4"; walk_at "K56"; k_whole; intro tk' tj'; (try dsimp only)))
  k_with "setAttr ref" => (k_here; (with_reducible show wpAny _ _ (setAttr (Value.ref _) (PySem.Str.ofString "free") _) _ _ _); k_dflt (refine' set_free ?zqk1 ?zqk2 ?zqk3 ?zqk4 ?_; walk_at "K4"; walk_at "KN"))
  k_with "setAttr ref" => (k_here; (with_reducible show wpAny _ _ (setAttr (Value.ref _) (PySem.Str.ofString "size") _) _ _ _); k_dflt (refine' set_size ?zqk1 ?zqk2 ?zqk3 ?zqk4 ?_; walk_at "K4"; walk_at "KN"))
  k_with "setAttr ref" => (k_here; (with_reducible show wpAny _ _ (setAttr (Value.ref _) (PySem.Str.ofString "flags") _) _ _ _); k_dflt (refine' set_flags ?zqk1 ?zqk2 ?zqk3 ?zqk4 ?_; walk_at "K4"; walk_at "KN"))
  k_with "setAttr ref" => (k_here; (with_reducible show wpAny _ _ (setAttr (Value.ref _) (PySem.Str.ofString "log_nodes") _) _ _ _); k_dflt (refine' set_log_nodes ?zqk1 ?zqk2 ?zqk3 ?zqk4 ?_; walk_at "K4"; walk_at "KN"))
  k_with "setAttr ref" => (k_here; (with_reducible show wpAny _ _ (setAttr (Value.ref _) (PySem.Str.ofString "key") _) _ _ _); k_dflt (refine' set_key ?zqk1 ?zqk2 ?zqk3 ?zqk4 ?zqk5 ?zqk6 ?zqk7 ?_; walk_at "K4"; walk_at "K56"; (case zqk7 => first | assumption | exact KV.none); walk_at "KN"))
  k_with "setAttr ref" => (k_here; (with_reducible show wpAny _ _ (setAttr (Value.ref _) (PySem.Str.ofString "value") _) _ _ _); k_dflt (refine' set_value ?zqk1 ?zqk2 ?zqk3 ?zqk4 ?zqk5 ?zqk6 ?zqk7 ?_; walk_at "K4"; walk_at "K56"; (case zqk7 => first | assumption | rfl); walk_at "KN"))
  k_with "setAttr ref" => (k_here; (with_reducible show wpAny _ _ (setAttr (Value.ref _) (PySem.Str.ofString "next") _) _ _ _); k_dflt (refine' set_next ?zqk1 ?zqk2 ?zqk3 ?zqk4 ?zqk5 ?zqk6 ?_; walk_at "K4"; walk_at "K56"; walk_at "KN"))
  k_with "getMethod ref" => (k_here; (with_reducible show wpAny _ _ (getMethod (Value.ref _) _ _) _ _ _); k_dflt (refine' tab_meth ?zqk1 ?zqk2 ?zqk3 ?zqk4 ?zqk5 ?zqk6 ?zqk7 ?zqk8 ?_; walk_at "K4"; (case zqk5 => k_is); (case zqk6 => k_is); (case zqk7 => k_is); (case zqk8 => decide +kernel); k_whole))
  k_with "call builtin:len" => (k_here; (with_reducible show wpAny _ _ (call (Value.builtin "len") [Value.ref _]) _ _ _); k_dflt (first | (refine' len_nodes ?zqk3 ?zqk4 ?_; (case zqk3 => k_asm); (case zqk4 => k_asm); k_whole; intro tk' tj'; (try dsimp only)) | (refine' len_arr ?zqk3 ?zqk4 ?_; (case zqk3 => k_asm); (case zqk4 => k_asm); k_whole; intro tk' tj'; (try dsimp only))))
  k_with "subscriptTail" => (k_here; (with_reducible show wpAny _ _ (subscriptTail _ _ (Value.ref _) (Value.int _ _)) _ _ _); k_dflt (first | (refine' item_node ?zqk3 ?zqk4 ?zqk5 ?zqk6 ?_ ?zqk7; (case zqk3 => k_asm); (case zqk4 => k_asm); (case zqk5 => assumption); (case zqk6 => first | assumption | omega); (case zqk7 => with_unfolding_all rfl); k_whole) | (refine' item_arr ?zqk3 ?zqk4 ?zqk5 ?zqk6 ?_ ?zqk7; (case zqk3 => k_asm); (case zqk4 => k_asm); (case zqk5 => assumption); (case zqk6 => first | assumption | omega); (case zqk7 => with_unfolding_all rfl); k_whole)))
  k_with "setItem ref int" => (k_here; (with_reducible show wpAny _ _ (setItem (Value.ref _) (Value.int _ _) _) _ _ _); k_dflt (refine' set_arr ?zqk1 ?zqk3 ?zqk4 ?zqk5 ?zqk6 ?_; (case zqk1 => k_asm); (case zqk3 => k_asm); (case zqk4 => k_asm); (case zqk5 => omega); (case zqk6 => (try dsimp only); omega); k_whole; intro h' n' F' N' hT' hK'; (try dsimp only); (try k_sweep)))
  k_with "call builtin:list.append" => (k_here; (with_reducible show wpAny _ _ (call (Value.builtin _) [Value.ref _, _]) _ _ _); k_dflt (refine' app_arr ?zqk1 ?zqk3 ?zqk4 ?zqk5 ?_; (case zqk1 => k_asm); (case zqk3 => k_asm); (case zqk4 => k_asm); (case zqk5 => (try dsimp only); omega); k_whole; intro h' n' F' N' hT' hK'; (try dsimp only); (try k_sweep)))
  k_with "compareOp Is" => (k_here; (with_reducible show wpAny _ _ (compareOp CmpOp.Is _ Value.none) _ _ _); k_dflt (refine' kv_isnone ?zqk1 ?_; (case zqk1 => assumption); k_whole))
  k_with "exec For Name Name cons nil" => (k_here; (rename Fr _ _ _ _ => lF'); (with_unfolding_all refine' For_invVF lF' ?zqk1 ?zqk2 ?_; (case zqk1 => exact rfl); (case zqk2 => exact rfl); k_whole))
  k_with "exec For Name Call cons nil" => (k_here; (rename Fr _ _ _ _ => lF'); (with_unfolding_all refine' For_invVF lF' ?zqk1 ?zqk2 ?_; (case zqk1 => exact rfl); (case zqk2 => exact rfl); k_whole))
  k_with "exec For Name Attribute cons nil" => (k_here; (rename Fr _ _ _ _ => lF'); (with_unfolding_all refine' For_invVF lF' ?zqk1 ?zqk2 ?_; (case zqk1 => exact rfl); (case zqk2 => exact rfl); k_whole))
  k_with "TP" => ((first | (with_reducible show Mine.TP _ _ _ _ _ _ (Flow.ret _) _) | (with_reducible show Mine.TP _ _ _ _ _ _ Flow.brk _) | (with_reducible show Mine.TP _ _ _ _ _ _ Flow.next _) | (with_reducible show Mine.TP _ _ _ _ _ _ Flow.cont _)); (dsimp only [Mine.TP]))
  k_with "compareOp Is" => (k_here; (with_reducible show wpAny _ _ (compareOp CmpOp.Is _ Value.none) _ _ _); k_dflt (first | (refine' is_eq ?zqk1 ?_; (case zqk1 => assumption); k_whole) | (refine' is_ne ?zqk1 ?_; (case zqk1 => assumption); k_whole)))
  k_with "compareOp IsNot" => (k_here; (with_reducible show wpAny _ _ (compareOp CmpOp.IsNot _ Value.none) _ _ _); k_dflt (first | (refine' isnot_eq ?zqk1 ?_; (case zqk1 => assumption); k_whole) | (refine' isnot_ne ?zqk1 ?_; (case zqk1 => assumption); k_whole)))
  exact trivial

/-- the free place, sought from n downwards: the place (or -1), the new bound -/
noncomputable def freePos (ns : List PNode) : Nat → Int × Nat
  | 0 => (-1, 0)
  | f + 1 => match ns[f]? with
    | some x => match x.key with
      | none => ((f : Int), f)
      | some _ => freePos ns f
    | none => (-1, 0)
noncomputable def TabOut (t : Addr) (Y : Lay) (T' : Tab) (v : Int) : Led → Value → Led → Prop := fun n0 r n1 => (∃ tk, r = .int v tk) ∧ TabIn n1 t Y T' ∧ Keeps Y n0 n1
theorem Keeps.refl {Y : Lay} {l : Led} : Keeps Y l l := fun _ h _ => h
theorem Keeps.trans {Y : Lay} {l l' l'' : Led} (a : Keeps Y l l') (b : Keeps Y l' l'') : Keeps Y l l'' := fun p h hn => b p (a p h hn) hn
set_option maxRecDepth 100000 in
set_option maxHeartbeats 8000000 in
theorem freepos_spec (w : World) (t : Addr) (Y : Lay) (T : Tab) (n : Nat) (hf : T.free = n) (hn : n ≤ T.nodes.length) : Spec w 238 [.ref t] 3 (fun nw => TabIn nw t Y T) (TabOut t Y { T with free := ((freePos T.nodes n).2 : Int) } (freePos T.nodes n).1) := by
  unfold Spec
  k_fill
  intro mean mg mb dp un gd cn cs a ccd cl outer A₀ base h₀ L m news s Q E B F X N TP hk hP hd hu hret
  w_top on
  w_on
  k_steps
  constructor
  (rename Fr _ _ _ _ => lF); (rename News _ _ _ _ => lN)
  refine While_inv2 (fun k m1 nw => m1 = _ ∧ TabIn nw t Y { T with free := (k : Int) } ∧ Keeps Y news nw ∧ k ≤ n ∧ freePos T.nodes k = freePos T.nodes n) (n₀ := n) lF lN ⟨rfl, by rw [← hf]; exact hP, Keeps.refl, Nat.le_refl _, rfl⟩ ?_
  clear lF lN
  rintro k m1 nw h tk F N ⟨rfl, hT, hK, hkn, hfp⟩
  clear hP
  cases k with
  | zero =>
    k_fold
    k_steps
    rw [← hfp] at hret
    exact hret _ _ _ _ (by k_asm) (by k_asm) ⟨⟨_, rfl⟩, hT, hK⟩
  | succ j =>
    obtain ⟨x, hx⟩ : ∃ x, T.nodes[j]? = some x := ⟨_, List.getElem?_eq_getElem (by omega)⟩
    obtain ⟨p, hp⟩ : ∃ p, Y.ns[j]? = some p := ⟨_, List.getElem?_eq_getElem (by have := hT.len; dsimp only at this; omega)⟩
    have ej : (((j + 1 : Nat) : Int) - 1) = (j : Int) := by omega
    cases hk : x.key with
    | none =>
      (try k_fold)
      k_steps
      have e : freePos T.nodes n = ((j : Int), j) := by rw [← hfp]; simp [freePos, hx, hk]
      rw [e, ← ej] at hret
      exact hret _ _ _ _ (by k_asm) (by k_asm) ⟨⟨_, rfl⟩, by assumption, hK.trans (by assumption)⟩
    | some kk =>
      (try k_fold)
      k_steps
      refine ⟨_, _, _, _, j, rfl, by assumption, by assumption, Nat.lt_succ_self j, rfl, ?_, hK.trans (by assumption), by omega, ?_⟩
      · rw [← ej]; assumption
      · rw [← hfp]; simp [freePos, hx, hk]

end
section
theorem wd_P11_0 : True := by
  k_with_none
  exact trivial
theorem wd_P11_14 : True := by
  k_with "KD" => first | exact dlt (by assumption) (by first | decide | omega) | exact dlt1 (by assumption) (by first | decide | omega) | exact dlt0 (by assumption) | ktr_room
  k_with "KU" => first | exact ult (by assumption) (by first | decide | omega) | ktr_units
  k_with "ENTER" => (refine' enter_ ?zqk1 ?zqk2 ?zqk3 ?zqk4 ?zqk5 ?zqkA ?zqkF ?zqkK ?zqk6 ?zqk7 ?zqk8 ?zqk9 ?zqkB ?_ ?zqc2 ?zqc3 ?zqc4 ?zqc5; (case zqkA => exact rfl); (case zqkF => exact rfl); (case zqkK => first | exact rfl | assumption); (case zqk1 => k_asm); (case zqk2 => k_asm); (case zqk3 => k_asm); (case zqk4 => k_asm); (case zqk5 => k_asm); (case zqk6 => k_is); (case zqk7 => k_is); (case zqk8 => walk_at "KD"); (case zqk9 => first | exact BindsTo.of_eq rfl | exact binds_K (by k_in) rfl (by k_is) rfl rfl rfl | fail "ENTER: no rule for these arguments"); (case zqc5 => decide); (case zqkB => exact locs rfl); (case zqc2 => exact rfl); (case zqc3 => exact rfl); (case zqc4 => exact rfl); k_whole; intro g' L' h' tk' FG' mm F' N' B' X' T' qk ek)
  k_with "call ref" => (k_here; k_dflt (first | (refine' call_cls0 ?zqk1 ?zqk2 ?zqk3 ?zqk4 ?zqk5 ?_; (case zqk1 => k_asm); (case zqk2 => k_asm); (case zqk3 => k_asm); (case zqk4 => k_is); (case zqk5 => k_is); k_whole; intro x' d' h' F' N' l1 l2; (try k_lt l1); (try k_lt2 l2); (try k_sweep)) | (refine' call_cls ?zqk1 ?zqk2 ?zqk3 ?zqk4 ?zqk5 ?zqk6 ?_; (case zqk1 => k_asm); (case zqk2 => k_asm); (case zqk3 => k_asm); (case zqk4 => k_is); (case zqk5 => k_is); (case zqk6 => k_is); k_whole; intro x' d' h' F' N' l1 l2; (try k_lt l1); (try k_lt2 l2); (try k_sweep); walk_at "ENTER") | (refine' call_meth ?zqk1 ?zqk2 ?_; (case zqk1 => k_asm); (case zqk2 => k_mem); k_whole; walk_at "ENTER") | (refine wpAny_call ?_; walk_at "ENTER")))
  k_with "call builtin:len" => (k_here; (with_reducible show wpAny _ _ (call (Value.builtin "len") [Value.ref _]) _ _ _); k_dflt (refine' kst_len ?zqk1 ?zqk2 ?zqk3 ?zqk4 ?_; (case zqk1 => k_asm); (case zqk2 => k_mem); (case zqk3 => first | assumption | exact rfl); (case zqk4 => omega); k_whole))
  k_with "WhileStep2" => (first | (with_reducible show WhileStep2 _ _ _ _ _ _ (Flow.ret _) _) | (with_reducible show WhileStep2 _ _ _ _ _ _ Flow.brk _)); (dsimp only [WhileStep2])
  k_with "execs cons" => (k_here; refine wpAny_execs_cons (foldQ ?_); intro qs)
  k_with "storeName" => (k_here; (try dsimp only); k_dflt (refine' store_ ?zqF ?zqN ?_ ?zqa ?zqb; (case zqF => k_asm); (case zqN => k_asm); (case zqa => first | exact rfl | assumption); (case zqb => rfl); k_whole; intro h' tk' mm F' N'; (try k_sweep)))
  k_with "exec While Compare cons nil" => refine Halt.go ?_
  k_with "pyIter ref" => refine Halt.go ?_
  k_with "call type:enumerate" => refine Halt.go ?_
  k_with "KswEnd" => refine Halt.at (k := "KswEnd") (by assumption) ?_
  k_with "subscriptTail" => refine Halt.at (k := "subscriptTail") (by assumption) ?_
  k_with "eval ListComp" => refine Halt.at (k := "eval ListComp") (by assumption) ?_
  k_with "CompSrc" => refine Halt.at (k := "CompSrc") (by assumption) ?_
  k_with "CompEnd" => refine Halt.at (k := "CompEnd") (by assumption) ?_
  k_with "call ref" => refine Halt.at (k := "call ref") (by assumption) ?_
  k_with "call builtin:sorted" => refine Halt.at (k := "call builtin:sorted") (by assumption) ?_
  k_with "call builtin:repr" => refine Halt.at (k := "call builtin:repr") (by assumption) ?_
  k_with "unpackItems ref" => refine Halt.at (k := "unpackItems ref") (by assumption) ?_
  k_with "compareOp Eq ref ref" => refine Halt.at (k := "compareOp Eq ref ref") (by assumption) ?_
  k_with "call type:str" => refine Halt.at (k := "call type:str") (by assumption) ?_
  k_with "K4" => ((case zqk1 => k_asm); (case zqk2 => k_asm); (case zqk3 => k_asm); (case zqk4 => k_asm))
  k_with "K56" => ((case zqk5 => first | assumption | (with_unfolding_all assumption)); (case zqk6 => first | assumption | (with_unfolding_all assumption)))
  k_with "KN" => (k_whole; intro h' tj' n' F' N' hT' hK'; (try dsimp only); (try k_sweep))
  k_with "getAttr ref" => (k_here; (with_reducible show wpAny _ _ (getAttr (Value.ref _) (PySem.Str.ofString "free") _) _ _ _); k_dflt (refine' get_free ?zqk1 ?zqk2 ?zqk3 ?zqk4 ?_; walk_at "K4"; k_whole; intro tk' tj'; (try dsimp only)))
  k_with "getAttr ref" => (k_here; (with_reducible show wpAny _ _ (getAttr (Value.ref _) (PySem.Str.ofString "size") _) _ _ _); k_dflt (refine' get_size ?zqk1 ?zqk2 ?zqk3 ?zqk4 ?_; walk_at "K4"; k_whole; intro tk' tj'; (try dsimp only)))
  k_with "getAttr ref" => (k_here; (with_reducible show wpAny _ _ (getAttr (Value.ref _) (PySem.Str.ofString "array") _) _ _ _); k_dflt (refine' get_array ?zqk1 ?zqk2 ?zqk3 ?zqk4 ?_; walk_at "K4"; k_whole; intro tj'; (try dsimp only)))
  k_with "getAttr ref" => (k_here; (with_reducible show wpAny _ _ (getAttr (Value.ref _) (PySem.Str.ofString "nodes") _) _ _ _); k_dflt (refine' get_nodes ?zqk1 ?zqk2 ?zqk3 ?zqk4 ?_; walk_at "K4"; k_whole; intro tj'; (try dsimp only)))
  k_with "getAttr ref" => (k_here; (with_reducible show wpAny _ _ (getAttr (Value.ref _) (PySem.Str.ofString "key") _) _ _ _); k_dflt (first | (refine' get_key_none ?zqk1 ?zqk2 ?zqk3 ?zqk4 ?zqk5 ?zqk6 ?zqk7 ?_; walk_at "K4"; walk_at "K56"; (case zqk7 => assumption); k_whole; intro tj'; (try dsimp only)) | (refine' get_key_some ?zqk1 ?zqk2 ?zqk3 ?zqk4 ?zqk5 ?zqk6 ?zqk7 ?_; walk_at "K4"; walk_at "K56"; (case zqk7 => assumption); k_whole; intro kv' tj' hkv'; (try dsimp only)) | (refine' get_key_any ?zqk1 ?zqk2 ?zqk3 ?zqk4 ?zqk5 ?zqk6 ?_; walk_at "K4"; walk_at "K56"; k_whole; intro kv' tj' hkv'; (try dsimp only))))
  k_with "getAttr ref" => (k_here; (with_reducible show wpAny _ _ (getAttr (Value.ref _) (PySem.Str.ofString "value") _) _ _ _); k_dflt (refine' get_value ?zqk1 ?zqk2 ?zqk3 ?zqk4 ?zqk5 ?zqk6 ?_; walk_at "K4"; walk_at "K56"; k_whole; intro tj'; (try dsimp only)))
  k_with "getAttr ref" => (k_here; (with_reducible show wpAny _ _ (getAttr (Value.ref _) (PySem.Str.ofString "next") _) _ _ _); k_dflt (refine' get_next ?zqk1 ?zqk2 ?zqk3 ?zqk4 ?zqk5 ?zqk6 ?_; walk_at "K4"; walk_at "K56"; k_whole; intro tk' tj'; (try dsimp only)))
  k_with "setAttr ref" => (k_here; (with_reducible show wpAny _ _ (setAttr (Value.ref _) (PySem.Str.ofString "free") _) _ _ _); k_dflt (refine' set_free ?zqk1 ?zqk2 ?zqk3 ?zqk4 ?_; walk_at "K4"; walk_at "KN"))
  k_with "setAttr ref" => (k_here; (with_reducible show wpAny _ _ (setAttr (Value.ref _) (PySem.Str.ofString "size") _) _ _ _); k_dflt (refine' set_size ?zqk1 ?zqk2 ?zqk3 ?zqk4 ?_; walk_at "K4"; walk_at "KN"))
  k_with "setAttr ref" => (k_here; (with_reducible show wpAny _ _ (setAttr (Value.ref _) (PySem.Str.ofString "flags") _) _ _ _); k_dflt (refine' set_flags ?zqk1 ?zqk2 ?zqk3 ?zqk4 ?_; walk_at "K4"; walk_at "KN"))
  k_with "setAttr ref" => (k_here; (with_reducible show wpAny _ _ (setAttr (Value.ref _) (PySem.Str.ofString "log_nodes") _) _ _ _); k_dflt (refine' set_log_nodes ?zqk1 ?zqk2 ?zqk3 ?zqk4 ?_; walk_at "K4"; walk_at "KN"))
  k_with "setAttr ref" => (k_here; (with_reducible show wpAny _ _ (setAttr (Value.ref _) (PySem.Str.ofString "key") _) _ _ _); k_dflt (refine' set_key ?zqk1 ?zqk2 ?zqk3 ?zqk4 ?zqk5 ?zqk6 ?zqk7 ?_; walk_at "K4"; walk_at "K56"; (case zqk7 => first | assumption | exact KV.none); walk_at "KN"))
  k_with "setAttr ref" => (k_here; (with_reducible show wpAny _ _ (setAttr (Value.ref _) (PySem.Str.ofString "value") _) _ _ _); k_dflt (refine' set_value ?zqk1 ?zqk2 ?zqk3 ?zqk4 ?zqk5 ?zqk6 ?zqk7 ?_; walk_at "K4"; walk_at "K56"; (case zqk7 => first | assumption | rfl); walk_at "KN"))
  k_with "setAttr ref" => (k_here; (with_reducible show wpAny _ _ (setAttr (Value.ref _) (PySem.Str.ofString "next") _) _ _ _); k_dflt (refine' set_next ?zqk1 ?zqk2 ?zqk3 ?zqk4 ?zqk5 ?zqk6 ?_; walk_at "K4"; walk_at "K56"; walk_at "KN"))
  k_with "getMethod ref" => (k_here; (with_reducible show wpAny _ _ (getMethod (Value.ref _) _ _) _ _ _); k_dflt (refine' tab_meth ?zqk1 ?zqk2 ?zqk3 ?zqk4 ?zqk5 ?zqk6 ?zqk7 ?zqk8 ?_; walk_at "K4"; (case zqk5 => k_is); (case zqk6 => k_is); (case zqk7 => k_is); (case zqk8 => decide +kernel); k_whole))
  k_with "call builtin:len" => (k_here; (with_reducible show wpAny _ _ (call (Value.builtin "len") [Value.ref _]) _ _ _); k_dflt (first | (refine' len_nodes ?zqk3 ?zqk4 ?_; (case zqk3 => k_asm); (case zqk4 => k_asm); k_whole; intro tk' tj'; (try dsimp only)) | (refine' len_arr ?zqk3 ?zqk4 ?_; (case zqk3 => k_asm); (case zqk4 => k_asm); k_whole; intro tk' tj'; (try dsimp only))))
  k_with "subscriptTail" => (k_here; (with_reducible show wpAny _ _ (subscriptTail _ _ (Value.ref _) (Value.int _ _)) _ _ _); k_dflt (first | (refine' item_node ?zqk3 ?zqk4 ?zqk5 ?zqk6 ?_ ?zqk7; (case zqk3 => k_asm); (case zqk4 => k_asm); (case zqk5 => assumption); (case zqk6 => first | assumption | omega); (case zqk7 => with_unfolding_all rfl); k_whole) | (refine' item_arr ?zqk3 ?zqk4 ?zqk5 ?zqk6 ?_ ?zqk7; (case zqk3 => k_asm); (case zqk4 => k_asm); (case zqk5 => assumption); (case zqk6 => first | assumption | omega); (case zqk7 => with_unfolding_all rfl); k_whole)))
  k_with "setItem ref int" => (k_here; (with_reducible show wpAny _ _ (setItem (Value.ref _) (Value.int _ _) _) _ _ _); k_dflt (refine' set_arr ?zqk1 ?zqk3 ?zqk4 ?zqk5 ?zqk6 ?_; (case zqk1 => k_asm); (case zqk3 => k_asm); (case zqk4 => k_asm); (case zqk5 => omega); (case zqk6 => (try dsimp only); omega); k_whole; intro h' n' F' N' hT' hK'; (try dsimp only); (try k_sweep)))
  k_with "call builtin:list.append" => (k_here; (with_reducible show wpAny _ _ (call (Value.builtin _) [Value.ref _, _]) _ _ _); k_dflt (refine' app_arr ?zqk1 ?zqk3 ?zqk4 ?zqk5 ?_; (case zqk1 => k_asm); (case zqk3 => k_asm); (case zqk4 => k_asm); (case zqk5 => (try dsimp only); omega); k_whole; intro h' n' F' N' hT' hK'; (try dsimp only); (try k_sweep)))
  k_with "compareOp Is" => (k_here; (with_reducible show wpAny _ _ (compareOp CmpOp.Is _ Value.none) _ _ _); k_dflt (refine' kv_isnone ?zqk1 ?_; (case zqk1 => assumption); k_whole))
  k_with "exec For Name Name cons nil" => (k_here; (rename Fr _ _ _ _ => lF'); (with_unfolding_all refine' For_invVF lF' ?zqk1 ?zqk2 ?_; (case zqk1 => exact rfl); (case zqk2 => exact rfl); k_whole))
  k_with "exec For Name Call cons nil" => (k_here; (rename Fr _ _ _ _ => lF'); (with_unfolding_all refine' For_invVF lF' ?zqk1 ?zqk2 ?_; (case zqk1 => exact rfl); (case zqk2 => exact rfl); k_whole))
  k_with "exec For Name Attribute cons nil" => (k_here; (rename Fr _ _ _ _ => lF'); (with_unfolding_all refine' For_invVF lF' ?zqk1 ?zqk2 ?_; (case zqk1 => exact rfl); (case zqk2 => exact rfl); k_whole))
  k_with "TP" => ((first | (with_reducible show Mine.TP _ _ _ _ _ _ (Flow.ret _) _) | (with_reducible show Mine.TP _ _ _ _ _ _ Flow.brk _) | (with_reducible show Mine.TP _ _ _ _ _ _ Flow.next _) | (with_reducible show Mine.TP _ _ _ _ _ _ Flow.cont _)); (dsimp only [Mine.TP]))
  k_with "compareOp Is" => (k_here; (with_reducible show wpAny _ _ (compareOp CmpOp.Is _ Value.none) _ _ _); k_dflt (first | (refine' is_eq ?zqk1 ?_; (case zqk1 => assumption); k_whole) | (refine' is_ne ?zqk1 ?_; (case zqk1 => assumption); k_whole)))
  k_with "compareOp IsNot" => (k_here; (with_reducible show wpAny _ _ (compareOp CmpOp.IsNot _ Value.none) _ _ _); k_dflt (first | (refine' isnot_eq ?zqk1 ?_; (case zqk1 => assumption); k_whole) | (refine' isnot_ne ?zqk1 ?_; (case zqk1 => assumption); k_whole)))
  exact trivial

theorem raweq_spec (w : World) {a b : Value} {o : Option PKey} {k : PKey} (ha : KV a o) (hb : KV b (some k)) : Spec w 111 [a, b] 7 Any (SameB (decide (o = some k))) := by
  cases ha <;> cases hb
  · rw [show decide ((none : Option PKey) = some (PKey.int _)) = false from by simp]; exact raweq_none_int _ _ _
  · rw [show decide ((none : Option PKey) = some (PKey.bts _)) = false from by simp]; exact raweq_none_bytes _ _ _
  · rename_i i _ j _
    rw [show decide (some (PKey.int i) = some (PKey.int j)) = (i == j) from by rw [Bool.eq_iff_iff]; simp]; exact raweq_int_int _ _ _ _ _
  · rw [show decide (some (PKey.int _) = some (PKey.bts _)) = false from by simp]; exact raweq_int_bytes _ _ _ _ _
  · rw [show decide (some (PKey.bts _) = some (PKey.int _)) = false from by simp]; exact raweq_bytes_int _ _ _ _ _
  · rename_i i _ j _
    rw [show decide (some (PKey.bts i.toList) = some (PKey.bts j.toList)) = (i.toList == j.toList) from by rw [Bool.eq_iff_iff]; simp]; exact raweq_bytes_bytes _ _ _ _ _
noncomputable def arrIx : PKey → Int
  | .int i => i
  | .bts _ => -1
theorem arrix_spec (w : World) {a : Value} {k : PKey} (ha : KV a (some k)) : Spec w 188 [a] 6 Any (SameI (arrIx k)) := by
  cases ha
  · exact arrix_int _ _ _
  · exact arrix_bytes _ _ _
theorem main_spec (w : World) (t : Addr) (Y : Lay) (T : Tab) {a : Value} {k : PKey} (ha : KV a (some k)) (ok : KeyOk k) : Spec w 224 [.ref t, a] 6 (fun nw => TabIn nw t Y T ∧ 0 < T.nodes.length) (SameI (mainP T.nodes.length k)) := by
  cases ha
  · exact main_int _ _ _ _ _ _
  · rename_i b tk
    obtain ⟨l⟩ := b
    match l, ok with
    | [x, y], _ => exact main_bytes _ _ _ _ _ _ _
noncomputable def walkF (ns : List PNode) (k : PKey) : Nat → Int → Option Int
  | 0, _ => none
  | f + 1, at1 => if at1 < 0 then some (-1) else match ns[at1.toNat]? with
    | none => none
    | some x => if x.key = some k then some at1 else walkF ns k f x.next
noncomputable def findP (T : Tab) (k : PKey) : Option Int :=
  if T.nodes.length = 0 then some (-1) else walkF T.nodes k (T.nodes.length + 1) (mainP T.nodes.length k)
theorem wd_P11_15 : True := by
  k_with "call ref" => (k_here; k_dflt ((refine' Spec.useB (raweq_spec _ (by assumption) (by assumption)) ?zqk1 ?zqk2 ?zqk3 ?zqk4 ?zqk5 ?zqkK ?zqkP ?zqkd ?zqku ?_; (case zqk1 => k_asm); (case zqk2 => k_asm); (case zqk3 => k_asm); (case zqk4 => k_asm); (case zqk5 => k_asm); (case zqkK => first | exact rfl | assumption); (case zqkP => trivial); (case zqkd => walk_at "KD"); (case zqku => walk_at "KU"); k_whole; intro h' tk' F' N'); (try dsimp only); (try k_sweep)))
  k_with "call ref" => (k_here; k_dflt ((refine' Spec.useI (main_spec _ _ _ _ (by assumption) (by assumption)) ?zqk1 ?zqk2 ?zqk3 ?zqk4 ?zqk5 ?zqkK ?zqkP ?zqkd ?zqku ?_; (case zqk1 => k_asm); (case zqk2 => k_asm); (case zqk3 => k_asm); (case zqk4 => k_asm); (case zqk5 => k_asm); (case zqkK => first | exact rfl | assumption); (case zqkP => (refine ⟨by assumption, ?_⟩; omega)); (case zqkd => walk_at "KD"); (case zqku => walk_at "KU"); k_whole; intro t1 h' tk' F' N'); (try dsimp only); (try k_sweep)))
  exact trivial
set_option maxRecDepth 100000 in
set_option maxHeartbeats 8000000 in
theorem find_spec (w : World) (t : Addr) (Y : Lay) (T : Tab) {kv : Value} {k : PKey} (hkv : KV kv (some k)) (ok : KeyOk k) (r : Int) (hr : findP T k = some r) : Spec w 231 [.ref t, kv] 9 (fun nw => TabIn nw t Y T) (SameI r) := by
  unfold Spec
  k_fill
  intro mean mg mb dp un gd cn cs a ccd cl outer A₀ base h₀ L m news s Q E B F X N TP hk hP hd hu hret
  w_top on
  w_on
  rename TabIn _ _ _ _ => hT
  k_steps
  · have h0 : (T.nodes.length : Int) = 0 := by assumption
    have e : r = -1 := by rw [findP, if_pos (by omega)] at hr; exact (Option.some.inj hr).symm
    subst e
    all_goals first | exact hret _ _ _ _ (by k_asm) (by first | k_asm | exact News.tl (by k_asm) | exact News.tl (News.tl (by k_asm)) | exact News.tl (News.tl (News.tl (by k_asm)))) ⟨rfl, _, rfl⟩ | skip
  · have h0 : ¬ (T.nodes.length : Int) = 0 := by assumption
    rw [findP, if_neg (by omega)] at hr
    constructor
    (rename Fr _ _ _ _ => lF); (rename News _ _ _ _ => lN)
    (with_unfolding_all refine' ksw_while (σ := Nat × Int × Tok) (fun _ => _) (fun c => [(Str.ofString "at", .int c.2.1 c.2.2)]) (fun _ => True) [] (fun c => walkF T.nodes k c.1 c.2.1 = some r) (fun c => c.1) (_, _, _) lF lN trivial ?hk hr ?turn)
    case hk => (intro p hp; simp only [List.mem_cons, List.not_mem_nil, or_false] at hp; rcases hp with rfl; rfl)
    clear lF lN; refine all3 ?_; rintro f at1 tk1 u h tk hf hw F N; dsimp only at hw
    cases f with
    | zero => cases hw
    | succ f =>
      by_cases hneg : at1 < 0
      · rw [walkF, if_pos hneg] at hw
        obtain rfl := Option.some.inj hw
        k_fold
        k_steps
        all_goals first | exact hret _ _ _ _ (by k_asm) (by first | k_asm | exact News.tl (by k_asm) | exact News.tl (News.tl (by k_asm)) | exact News.tl (News.tl (News.tl (by k_asm)))) ⟨rfl, _, rfl⟩ | skip
      · rw [walkF, if_neg hneg] at hw
        obtain ⟨i, rfl⟩ := Int.eq_ofNat_of_zero_le (by omega : 0 ≤ at1)
        rw [Int.toNat_natCast] at hw
        cases hx : T.nodes[i]? with
        | none => rw [hx] at hw; cases hw
        | some x =>
          obtain ⟨p, hp⟩ : ∃ p, Y.ns[i]? = some p := ⟨_, List.getElem?_eq_getElem (by have := hT.len; have := (List.getElem?_eq_some_iff.mp hx).1; omega)⟩
          rw [hx] at hw
          dsimp only at hw
          k_fold
          k_steps
          · have hq : x.key = some k := by first | assumption | exact of_decide_eq_true (by assumption)
            rw [if_pos hq] at hw
            obtain rfl := Option.some.inj hw
            all_goals first | exact hret _ _ _ _ (by k_asm) (by first | k_asm | exact News.tl (by k_asm) | exact News.tl (News.tl (by k_asm)) | exact News.tl (News.tl (News.tl (by k_asm)))) ⟨rfl, _, rfl⟩ | skip
          · have hq : ¬ x.key = some k := by first | assumption | exact of_decide_eq_false (by assumption) | simpa using (by assumption : ¬ (decide (x.key = some k) = true))
            rw [if_neg hq] at hw
            refine ksw_end ⟨f, _, _⟩ (by assumption) (by assumption) (by kst_in) (by kst_facts) (by kst_all) ?hr hw (Nat.lt_succ_self f)
            (first | (intro z h2 h3; have h4 := ne_true_of_eq_false h3; simp only [List.forall_mem_cons, List.not_mem_nil, false_implies, implies_true, and_true, ne_eq] at h2; (try simp only [List.contains_cons, List.contains_nil, Bool.or_false, Bool.or_eq_false_iff, beq_eq_false_iff_ne, ne_eq] at h3); (repeat first | with_reducible rfl | (refine Eq.trans (kstB_ne ?zqs) ?_; (case zqs => first | exact h2 | exact h2.1 | exact h2.2 | exact h2.2.1 | exact h2.2.2 | exact h2.2.2.1 | exact h2.2.2.2 | exact h3 | exact h3.1 | exact h3.2 | exact h3.2.1 | exact h3.2.2 | exact h4)) | (refine Eq.trans (kstB_nil _ _) ?_) | (refine Eq.trans (if_neg ?zqs) ?_; (case zqs => first | exact h2 | exact h2.1 | exact h2.2 | exact h2.2.1 | exact h2.2.2 | exact h2.2.2.1 | exact h2.2.2.2 | exact h3 | exact h3.1 | exact h3.2 | exact h3.2.1 | exact h3.2.2 | exact h4))); done) | (intro z h2 h3; simp only [List.forall_mem_cons, List.not_mem_nil, false_implies, implies_true, and_true, ne_eq] at h2; (try simp only [List.contains_cons, List.contains_nil, Bool.or_false, Bool.or_eq_false_iff, beq_eq_false_iff_ne, ne_eq] at h3); simp +zetaDelta [kstB, h2, h3]))

end
section
theorem wd_P12_0 : True := by
  k_with_none
  exact trivial
theorem wd_P12_16 : True := by
  k_with "KD" => first | exact dlt (by assumption) (by first | decide | omega) | exact dlt1 (by assumption) (by first | decide | omega) | exact dlt0 (by assumption) | ktr_room
  k_with "KU" => first | exact ult (by assumption) (by first | decide | omega) | ktr_units
  k_with "ENTER" => (refine' enter_ ?zqk1 ?zqk2 ?zqk3 ?zqk4 ?zqk5 ?zqkA ?zqkF ?zqkK ?zqk6 ?zqk7 ?zqk8 ?zqk9 ?zqkB ?_ ?zqc2 ?zqc3 ?zqc4 ?zqc5; (case zqkA => exact rfl); (case zqkF => exact rfl); (case zqkK => first | exact rfl | assumption); (case zqk1 => k_asm); (case zqk2 => k_asm); (case zqk3 => k_asm); (case zqk4 => k_asm); (case zqk5 => k_asm); (case zqk6 => k_is); (case zqk7 => k_is); (case zqk8 => walk_at "KD"); (case zqk9 => first | exact BindsTo.of_eq rfl | exact binds_K (by k_in) rfl (by k_is) rfl rfl rfl | fail "ENTER: no rule for these arguments"); (case zqc5 => decide); (case zqkB => exact locs rfl); (case zqc2 => exact rfl); (case zqc3 => exact rfl); (case zqc4 => exact rfl); k_whole; intro g' L' h' tk' FG' mm F' N' B' X' T' qk ek)
  k_with "call ref" => (k_here; k_dflt (first | (refine' call_cls0 ?zqk1 ?zqk2 ?zqk3 ?zqk4 ?zqk5 ?_; (case zqk1 => k_asm); (case zqk2 => k_asm); (case zqk3 => k_asm); (case zqk4 => k_is); (case zqk5 => k_is); k_whole; intro x' d' h' F' N' l1 l2; (try k_lt l1); (try k_lt2 l2); (try k_sweep)) | (refine' call_cls ?zqk1 ?zqk2 ?zqk3 ?zqk4 ?zqk5 ?zqk6 ?_; (case zqk1 => k_asm); (case zqk2 => k_asm); (case zqk3 => k_asm); (case zqk4 => k_is); (case zqk5 => k_is); (case zqk6 => k_is); k_whole; intro x' d' h' F' N' l1 l2; (try k_lt l1); (try k_lt2 l2); (try k_sweep); walk_at "ENTER") | (refine' call_meth ?zqk1 ?zqk2 ?_; (case zqk1 => k_asm); (case zqk2 => k_mem); k_whole; walk_at "ENTER") | (refine wpAny_call ?_; walk_at "ENTER")))
  k_with "call builtin:len" => (k_here; (with_reducible show wpAny _ _ (call (Value.builtin "len") [Value.ref _]) _ _ _); k_dflt (refine' kst_len ?zqk1 ?zqk2 ?zqk3 ?zqk4 ?_; (case zqk1 => k_asm); (case zqk2 => k_mem); (case zqk3 => first | assumption | exact rfl); (case zqk4 => omega); k_whole))
  k_with "WhileStep2" => (first | (with_reducible show WhileStep2 _ _ _ _ _ _ (Flow.ret _) _) | (with_reducible show WhileStep2 _ _ _ _ _ _ Flow.brk _)); (dsimp only [WhileStep2])
  k_with "execs cons" => (k_here; refine wpAny_execs_cons (foldQ ?_); intro qs)
  k_with "storeName" => (k_here; (try dsimp only); k_dflt (refine' store_ ?zqF ?zqN ?_ ?zqa ?zqb; (case zqF => k_asm); (case zqN => k_asm); (case zqa => first | exact rfl | assumption); (case zqb => rfl); k_whole; intro h' tk' mm F' N'; (try k_sweep)))
  k_with "exec While Compare cons nil" => refine Halt.go ?_
  k_with "pyIter ref" => refine Halt.go ?_
  k_with "call type:enumerate" => refine Halt.go ?_
  k_with "KswEnd" => refine Halt.at (k := "KswEnd") (by assumption) ?_
  k_with "subscriptTail" => refine Halt.at (k := "subscriptTail") (by assumption) ?_
  k_with "eval ListComp" => refine Halt.at (k := "eval ListComp") (by assumption) ?_
  k_with "CompSrc" => refine Halt.at (k := "CompSrc") (by assumption) ?_
  k_with "CompEnd" => refine Halt.at (k := "CompEnd") (by assumption) ?_
  k_with "call ref" => refine Halt.at (k := "call ref") (by assumption) ?_
  k_with "call builtin:sorted" => refine Halt.at (k := "call builtin:sorted") (by assumption) ?_
  k_with "call builtin:repr" => refine Halt.at (k := "call builtin:repr") (by assumption) ?_
  k_with "unpackItems ref" => refine Halt.at (k := "unpackItems ref") (by assumption) ?_
  k_with "compareOp Eq ref ref" => refine Halt.at (k := "compareOp Eq ref ref") (by assumption) ?_
  k_with "call type:str" => refine Halt.at (k := "call type:str") (by assumption) ?_
  k_with "K4" => ((case zqk1 => k_asm); (case zqk2 => k_asm); (case zqk3 => k_asm); (case zqk4 => k_asm))
  k_with "K56" => ((case zqk5 => first | assumption | (with_unfolding_all assumption)); (case zqk6 => first | assumption | (with_unfolding_all assumption)))
  k_with "KN" => (k_whole; intro h' tj' n' F' N' hT' hK'; (try dsimp only); (try k_sweep))
  k_with "getAttr ref" => (k_here; (with_reducible show wpAny _ _ (getAttr (Value.ref _) (PySem.Str.ofString "free") _) _ _ _); k_dflt (refine' get_free ?zqk1 ?zqk2 ?zqk3 ?zqk4 ?_; walk_at "K4"; k_whole; intro tk' tj'; (try dsimp only)))
  k_with "getAttr ref" => (k_here; (with_reducible show wpAny _ _ (getAttr (Value.ref _) (PySem.Str.ofString "size") _) _ _ _); k_dflt (refine' get_size ?zqk1 ?zqk2 ?zqk3 ?zqk4 ?_; walk_at "K4"; k_whole; intro tk' tj'; (try dsimp only)))
  k_with "getAttr ref" => (k_here; (with_reducible show wpAny _ _ (getAttr (Value.ref _) (PySem.Str.ofString "array") _) _ _ _); k_dflt (refine' get_array ?zqk1 ?zqk2 ?zqk3 ?zqk4 ?_; walk_at "K4"; k_whole; intro tj'; (try dsimp only)))
  k_with "getAttr ref" => (k_here; (with_reducible show wpAny _ _ (getAttr (Value.ref _) (PySem.Str.ofString "nodes") _) _ _ _); k_dflt (refine' get_nodes ?zqk1 ?zqk2 ?zqk3 ?zqk4 ?_; walk_at "K4"; k_whole; intro tj'; (try dsimp only)))
  k_with "getAttr ref" => (k_here; (with_reducible show wpAny _ _ (getAttr (Value.ref _) (PySem.Str.ofString "key") _) _ _ _); k_dflt (first | (refine' get_key_none ?zqk1 ?zqk2 ?zqk3 ?zqk4 ?zqk5 ?zqk6 ?zqk7 ?_; walk_at "K4"; walk_at "K56"; (case zqk7 => assumption); k_whole; intro tj'; (try dsimp only)) | (refine' get_key_some ?zqk1 ?zqk2 ?zqk3 ?zqk4 ?zqk5 ?zqk6 ?zqk7 ?_; walk_at "K4"; walk_at "K56"; (case zqk7 => assumption); k_whole; intro kv' tj' hkv'; (try dsimp only)) | (refine' get_key_any ?zqk1 ?zqk2 ?zqk3 ?zqk4 ?zqk5 ?zqk6 ?_; walk_at "K4"; walk_at "K56"; k_whole; intro kv' tj' hkv'; (try dsimp only))))
  k_with "getAttr ref" => (k_here; (with_reducible show wpAny _ _ (getAttr (Value.ref _) (PySem.Str.ofString "value") _) _ _ _); k_dflt (refine' get_value ?zqk1 ?zqk2 ?zqk3 ?zqk4 ?zqk5 ?zqk6 ?_; walk_at "K4"; walk_at "K56"; k_whole; intro tj'; (try dsimp only)))
  k_with "getAttr ref" => (k_here; (with_reducible show wpAny _ _ (getAttr (Value.ref _) (PySem.Str.ofString "next") _) _ _ _); k_dflt (refine' get_next ?zqk1 ?zqk2 ?zqk3 ?zqk4 ?zqk5 ?zqk6 ?_; walk_at "K4"; walk_at "K56"; k_whole; intro tk' tj'; (try dsimp only)))
  k_with "setAttr ref" => (k_here; (with_reducible show wpAny _ _ (setAttr (Value.ref _) (PySem.Str.ofString "free") _) _ _ _); k_dflt (refine' set_free ?zqk1 ?zqk2 ?zqk3 ?zqk4 ?_; walk_at "K4"; walk_at "KN"))
  k_with "setAttr ref" => (k_here; (with_reducible show wpAny _ _ (setAttr (Value.ref _) (PySem.Str.ofString "size") _) _ _ _); k_dflt (refine' set_size ?zqk1 ?zqk2 ?zqk3 ?zqk4 ?_; walk_at "K4"; walk_at "KN"))
  k_with "setAttr ref" => (k_here; (with_reducible show wpAny _ _ (setAttr (Value.ref _) (PySem.Str.ofString "flags") _) _ _ _); k_dflt (refine' set_flags ?zqk1 ?zqk2 ?zqk3 ?zqk4 ?_; walk_at "K4"; walk_at "KN"))
  k_with "setAttr ref" => (k_here; (with_reducible show wpAny _ _ (setAttr (Value.ref _) (PySem.Str.ofString "log_nodes") _) _ _ _); k_dflt (refine' set_log_nodes ?zqk1 ?zqk2 ?zqk3 ?zqk4 ?_; walk_at "K4"; walk_at "KN"))
  k_with "setAttr ref" => (k_here; (with_reducible show wpAny _ _ (setAttr (Value.ref _) (PySem.Str.ofString "key") _) _ _ _); k_dflt (refine' set_key ?zqk1 ?zqk2 ?zqk3 ?zqk4 ?zqk5 ?zqk6 ?zqk7 ?_; walk_at "K4"; walk_at "K56"; (case zqk7 => first | assumption | exact KV.none); walk_at "KN"))
  k_with "setAttr ref" => (k_here; (with_reducible show wpAny _ _ (setAttr (Value.ref _) (PySem.Str.ofString "value") _) _ _ _); k_dflt (refine' set_value ?zqk1 ?zqk2 ?zqk3 ?zqk4 ?zqk5 ?zqk6 ?zqk7 ?_; walk_at "K4"; walk_at "K56"; (case zqk7 => first | assumption | rfl); walk_at "KN"))
  k_with "setAttr ref" => (k_here; (with_reducible show wpAny _ _ (setAttr (Value.ref _) (PySem.Str.ofString "next") _) _ _ _); k_dflt (refine' set_next ?zqk1 ?zqk2 ?zqk3 ?zqk4 ?zqk5 ?zqk6 ?_; walk_at "K4"; walk_at "K56"; walk_at "KN"))
  k_with "getMethod ref" => (k_here; (with_reducible show wpAny _ _ (getMethod (Value.ref _) _ _) _ _ _); k_dflt (refine' tab_meth ?zqk1 ?zqk2 ?zqk3 ?zqk4 ?zqk5 ?zqk6 ?zqk7 ?zqk8 ?_; walk_at "K4"; (case zqk5 => k_is); (case zqk6 => k_is); (case zqk7 => k_is); (case zqk8 => decide +kernel); k_whole))
  k_with "call builtin:len" => (k_here; (with_reducible show wpAny _ _ (call (Value.builtin "len") [Value.ref _]) _ _ _); k_dflt (first | (refine' len_nodes ?zqk3 ?zqk4 ?_; (case zqk3 => k_asm); (case zqk4 => k_asm); k_whole; intro tk' tj'; (try dsimp only)) | (refine' len_arr ?zqk3 ?zqk4 ?_; (case zqk3 => k_asm); (case zqk4 => k_asm); k_whole; intro tk' tj'; (try dsimp only))))
  k_with "subscriptTail" => (k_here; (with_reducible show wpAny _ _ (subscriptTail _ _ (Value.ref _) (Value.int _ _)) _ _ _); k_dflt (first | (refine' item_node ?zqk3 ?zqk4 ?zqk5 ?zqk6 ?_ ?zqk7; (case zqk3 => k_asm); (case zqk4 => k_asm); (case zqk5 => assumption); (case zqk6 => first | assumption | omega); (case zqk7 => with_unfolding_all rfl); k_whole) | (refine' item_arr ?zqk3 ?zqk4 ?zqk5 ?zqk6 ?_ ?zqk7; (case zqk3 => k_asm); (case zqk4 => k_asm); (case zqk5 => assumption); (case zqk6 => first | assumption | omega); (case zqk7 => with_unfolding_all rfl); k_whole)))
  k_with "setItem ref int" => (k_here; (with_reducible show wpAny _ _ (setItem (Value.ref _) (Value.int _ _) _) _ _ _); k_dflt (refine' set_arr ?zqk1 ?zqk3 ?zqk4 ?zqk5 ?zqk6 ?_; (case zqk1 => k_asm); (case zqk3 => k_asm); (case zqk4 => k_asm); (case zqk5 => omega); (case zqk6 => (try dsimp only); omega); k_whole; intro h' n' F' N' hT' hK'; (try dsimp only); (try k_sweep)))
  k_with "call builtin:list.append" => (k_here; (with_reducible show wpAny _ _ (call (Value.builtin _) [Value.ref _, _]) _ _ _); k_dflt (refine' app_arr ?zqk1 ?zqk3 ?zqk4 ?zqk5 ?_; (case zqk1 => k_asm); (case zqk3 => k_asm); (case zqk4 => k_asm); (case zqk5 => (try dsimp only); omega); k_whole; intro h' n' F' N' hT' hK'; (try dsimp only); (try k_sweep)))
  k_with "compareOp Is" => (k_here; (with_reducible show wpAny _ _ (compareOp CmpOp.Is _ Value.none) _ _ _); k_dflt (refine' kv_isnone ?zqk1 ?_; (case zqk1 => assumption); k_whole))
  k_with "exec For Name Name cons nil" => (k_here; (rename Fr _ _ _ _ => lF'); (with_unfolding_all refine' For_invVF lF' ?zqk1 ?zqk2 ?_; (case zqk1 => exact rfl); (case zqk2 => exact rfl); k_whole))
  k_with "exec For Name Call cons nil" => (k_here; (rename Fr _ _ _ _ => lF'); (with_unfolding_all refine' For_invVF lF' ?zqk1 ?zqk2 ?_; (case zqk1 => exact rfl); (case zqk2 => exact rfl); k_whole))
  k_with "exec For Name Attribute cons nil" => (k_here; (rename Fr _ _ _ _ => lF'); (with_unfolding_all refine' For_invVF lF' ?zqk1 ?zqk2 ?_; (case zqk1 => exact rfl); (case zqk2 => exact rfl); k_whole))
  k_with "TP" => ((first | (with_reducible show Mine.TP _ _ _ _ _ _ (Flow.ret _) _) | (with_reducible show Mine.TP _ _ _ _ _ _ Flow.brk _) | (with_reducible show Mine.TP _ _ _ _ _ _ Flow.next _) | (with_reducible show Mine.TP _ _ _ _ _ _ Flow.cont _)); (dsimp only [Mine.TP]))
  k_with "compareOp Is" => (k_here; (with_reducible show wpAny _ _ (compareOp CmpOp.Is _ Value.none) _ _ _); k_dflt (first | (refine' is_eq ?zqk1 ?_; (case zqk1 => assumption); k_whole) | (refine' is_ne ?zqk1 ?_; (case zqk1 => assumption); k_whole)))
  k_with "compareOp IsNot" => (k_here; (with_reducible show wpAny _ _ (compareOp CmpOp.IsNot _ Value.none) _ _ _); k_dflt (first | (refine' isnot_eq ?zqk1 ?_; (case zqk1 => assumption); k_whole) | (refine' isnot_ne ?zqk1 ?_; (case zqk1 => assumption); k_whole)))
  exact trivial

noncomputable def Step (Y : Lay) (l : Led) (Y' : Lay) (l' : Led) : Prop := Keeps Y l l' ∧ ∀ a ∈ touch Y', a ∈ touch Y ∨ ∀ q ∈ l, q.1 ∉ touch Y → q.1 < a
theorem Step.of {Y : Lay} {l l' : Led} (h : Keeps Y l l') : Step Y l Y l' := ⟨h, fun _ ha => .inl ha⟩
theorem Step.refl {Y : Lay} {l : Led} : Step Y l Y l := .of .refl
theorem Step.off {Y Y' : Lay} {l l' : Led} (h : Step Y l Y' l') {p : Addr × Obj} (hp : p ∈ l) (hn : p.1 ∉ touch Y) : p ∈ l' ∧ p.1 ∉ touch Y' :=
  ⟨h.1 p hp hn, fun hm => (h.2 _ hm).elim hn fun q => absurd (q p hp hn) (Nat.lt_irrefl _)⟩
theorem Step.trans {Y Y' Y'' : Lay} {l l' l'' : Led} (a : Step Y l Y' l') (b : Step Y' l' Y'' l'') : Step Y l Y'' l'' :=
  ⟨fun p hp hn => (b.off (a.off hp hn).1 (a.off hp hn).2).1, fun x hx => (b.2 x hx).elim (a.2 x) fun q => .inr fun p hp hn => q p (a.off hp hn).1 (a.off hp hn).2⟩
noncomputable def TabNew (t : Addr) (Y : Lay) (T' : Tab) : Led → Value → Led → Prop := fun n0 r n1 => r = .none ∧ ∃ Y', TabIn n1 t Y' T' ∧ Step Y n0 Y' n1
noncomputable def getInt (T : Tab) (n : Int) : Option Value :=
  if 1 ≤ n ∧ n ≤ T.arr.length then T.arr[(n - 1).toNat]? else
    (findP T (.int n)).bind fun at1 => if at1 < 0 then some .none else (T.nodes[at1.toNat]?).map (·.val)
noncomputable def weighT (T : Tab) : Tab := { T with size := 56 + 16 * (T.arr.length : Int) + 32 * (T.nodes.length : Int) }
noncomputable def SameV (v : Value) : Led → Value → Led → Prop := fun n0 r n1 => n1 = n0 ∧ r = v
structure JoinB (b : Bool) (s : Shared) (r : Bool) (s' : Shared) : Prop where
  val : r = b
  st : ∃ tk, s' = { s with toks := tk }
theorem join_test {M : Model} {A : Around} {t : Sem Bool} {Q : Bool → Shared → Prop} {E : Value → Shared → Prop} {s : Shared} (b : Bool) (h : wpAny M A t (JoinB b s) E s) (k : ∀ tk, Q b { s with toks := tk }) : wpAny M A t Q E s :=
  wpAny_mono h (fun _ _ q => by obtain ⟨rfl, tk, rfl⟩ := q; exact k tk) fun _ _ e => e
theorem join_and_t {a b : Prop} [Decidable a] [Decidable b] (h : a) (h' : b) : true = decide (a ∧ b) := (decide_eq_true ⟨h, h'⟩).symm
theorem join_and_f {a b : Prop} [Decidable a] [Decidable b] (h : ¬ a ∨ ¬ b) : false = decide (a ∧ b) := (decide_eq_false fun q => h.elim (absurd q.1) (absurd q.2)).symm
theorem wd_P12_17 : True := by
  k_with "call ref" => (k_here; k_dflt ((refine' Spec.useI (find_spec _ _ _ _ (by first | assumption | exact KV.int _ _) (by first | assumption | trivial) _ (by assumption)) ?zqk1 ?zqk2 ?zqk3 ?zqk4 ?zqk5 ?zqkK ?zqkP ?zqkd ?zqku ?_; (case zqk1 => k_asm); (case zqk2 => k_asm); (case zqk3 => k_asm); (case zqk4 => k_asm); (case zqk5 => k_asm); (case zqkK => first | exact rfl | assumption); (case zqkP => assumption); (case zqkd => walk_at "KD"); (case zqku => walk_at "KU"); k_whole; intro t1 h' tk' F' N'); (try dsimp only); (try k_sweep)))
  exact trivial
set_option maxRecDepth 100000 in
set_option maxHeartbeats 8000000 in
theorem weigh_spec (w : World) (t : Addr) (Y : Lay) (T : Tab) : Spec w 356 [.ref t, .none] 3 (fun nw => TabIn nw t Y T) (TabNew t Y (weighT T)) := by
  unfold Spec
  k_fill
  intro mean mg mb dp un gd cn cs a ccd cl outer A₀ base h₀ L m news s Q E B F X N TP hk hP hd hu hret
  w_top on
  w_on
  rename TabIn _ _ _ _ => hT
  have h1 := hT.asz
  have h2 := hT.nsz
  k_steps
  exact hret _ _ _ _ (by k_asm) (by k_asm) ⟨rfl, _, by assumption, .of (by assumption)⟩
set_option maxRecDepth 100000 in
set_option maxHeartbeats 8000000 in
theorem getint_spec (w : World) (t : Addr) (Y : Lay) (T : Tab) (n : Int) (tk : Tok) (v : Value) (hv : getInt T n = some v) : Spec w 245 [.ref t, .int n tk] 12 (fun nw => TabIn nw t Y T) (SameV v) := by
  unfold Spec
  k_fill
  intro mean mg mb dp un gd cn cs a ccd cl outer A₀ base h₀ L m news s Q E B F X N TP hk hP hd hu hret
  w_top on
  w_on
  rename TabIn _ _ _ _ => hT
  have hM9 := haltAt "JOIN"
  k_with "isTrue Compare" => ((have hJ9 : HaltAt "JOIN" := by assumption); clear hJ9; (k_dflt ((with_reducible show wpAny _ _ (isTrue (Expr.Compare _ [_, _] _ _) _ _) _ _ _); (fail_if_success (with_reducible show wpAny _ _ _ (JoinB _ _) _ _)); (refine join_test (decide (1 ≤ n ∧ n ≤ (T.arr.length : Int))) ?_ ?_); (focus (k_steps; (all_goals first | exact ⟨join_and_t (by omega) (by omega), _, rfl⟩ | exact ⟨join_and_f (by omega), _, rfl⟩ | exact ⟨by rw [decide_eq_decide]; omega, _, rfl⟩))); (intro tj9; (try dsimp only); (try rw [hb]))) ))
  cases hb : decide (1 ≤ n ∧ n ≤ (T.arr.length : Int)) with
  | true =>
    have hb' := of_decide_eq_true hb
    rw [getInt, if_pos hb'] at hv
    have he : n - 1 = ((n - 1).toNat : Int) := by omega
    cases hx : T.arr[(n - 1).toNat]? with
    | none => rw [hx] at hv; cases hv
    | some v' =>
      rw [hx] at hv
      obtain rfl := Option.some.inj hv
      k_steps
      exact hret _ _ _ _ (by k_asm) (by k_asm) ⟨rfl, rfl⟩
  | false =>
    rw [getInt, if_neg (of_decide_eq_false hb)] at hv
    cases hf : findP T (.int n) with
    | none => rw [hf] at hv; cases hv
    | some at1 =>
      rw [hf, Option.bind_some] at hv
      by_cases hneg : at1 < 0
      · rw [if_pos hneg] at hv
        obtain rfl := Option.some.inj hv
        k_steps
        exact hret _ _ _ _ (by k_asm) (by k_asm) ⟨rfl, rfl⟩
      · rw [if_neg hneg] at hv
        cases hx : T.nodes[at1.toNat]? with
        | none => rw [hx] at hv; cases hv
        | some x =>
          rw [hx, Option.map_some] at hv
          obtain rfl := Option.some.inj hv
          obtain ⟨p, hp⟩ : ∃ p, Y.ns[at1.toNat]? = some p := ⟨_, List.getElem?_eq_getElem (by have := hT.len; have := (List.getElem?_eq_some_iff.mp hx).1; omega)⟩
          k_steps
          exact hret _ _ _ _ (by k_asm) (by k_asm) ⟨rfl, rfl⟩

end
section
theorem Spec.useV {w : World} {f : Addr} {args : List Value} {cost : Nat} {P : Led → Prop} {v : Value} (S : Spec w f args cost P (SameV v))
    {mean : ExcName → Option Value} {mg mb : Str → Option Value} {dp un : Nat} {gd : Option (List Code)} {cn : Str} {cs : Scope} {a : Addr} {ccd : Value} {cl : List (Str × Addr)} {outer : List Env} {A₀ : Around} {base h₀ : Heap} {L : Addr} {m : Str → Option Value} {news : Led} {s : Shared}
    {Q E : Value → Shared → Prop} (B : Below A₀ base outer h₀) (F : Fr h₀ L s.heap m) (X : (Mine.hd.heap_1 w.params).In h₀) (N : News h₀ L s.heap news) (T : Top VW LO mean mg mb h₀) (hk : cs.kind = .function) (hP : P news) (hd : dp + cost < recursionLimit) (hu : un + 8 * cost < cLine)
    (ret : ∀ h' tk', Fr h₀ L h' m → News h₀ L h' news → Q v { s with heap := h', toks := tk' }) :
    wpAny (model PySem.Challenge.rw_pq0681_01.row.prog w) (ktrTop dp un gd cn cs L a ccd cl outer) (call (.ref f) args) Q E s :=
  S.use B F X N T hk hP hd hu fun _ h' tk' _ F' N' R' => by obtain ⟨e1, e2⟩ := R'; subst e1; subst e2; exact ret h' tk' F' N'
theorem Spec.useT {w : World} {f : Addr} {args : List Value} {cost : Nat} {P : Led → Prop} {t : Addr} {Y : Lay} {T' : Tab} (S : Spec w f args cost P (TabNew t Y T'))
    {mean : ExcName → Option Value} {mg mb : Str → Option Value} {dp un : Nat} {gd : Option (List Code)} {cn : Str} {cs : Scope} {a : Addr} {ccd : Value} {cl : List (Str × Addr)} {outer : List Env} {A₀ : Around} {base h₀ : Heap} {L : Addr} {m : Str → Option Value} {news : Led} {s : Shared}
    {Q E : Value → Shared → Prop} (B : Below A₀ base outer h₀) (F : Fr h₀ L s.heap m) (X : (Mine.hd.heap_1 w.params).In h₀) (N : News h₀ L s.heap news) (T : Top VW LO mean mg mb h₀) (hk : cs.kind = .function) (hP : P news) (hd : dp + cost < recursionLimit) (hu : un + 8 * cost < cLine)
    (ret : ∀ h' tk' n' Y', Fr h₀ L h' m → News h₀ L h' n' → TabIn n' t Y' T' → Step Y news Y' n' → Q .none { s with heap := h', toks := tk' }) :
    wpAny (model PySem.Challenge.rw_pq0681_01.row.prog w) (ktrTop dp un gd cn cs L a ccd cl outer) (call (.ref f) args) Q E s :=
  S.use B F X N T hk hP hd hu fun _ h' tk' n' F' N' R' => by obtain ⟨e1, Y', hT', hS'⟩ := R'; subst e1; exact ret h' tk' n' Y' F' N' hT' hS'

end
section
theorem wd_P13_0 : True := by
  k_with_none
  exact trivial
theorem wd_P13_18 : True := by
  k_with "KD" => first | exact dlt (by assumption) (by first | decide | omega) | exact dlt1 (by assumption) (by first | decide | omega) | exact dlt0 (by assumption) | ktr_room
  k_with "KU" => first | exact ult (by assumption) (by first | decide | omega) | ktr_units
  k_with "ENTER" => (refine' enter_ ?zqk1 ?zqk2 ?zqk3 ?zqk4 ?zqk5 ?zqkA ?zqkF ?zqkK ?zqk6 ?zqk7 ?zqk8 ?zqk9 ?zqkB ?_ ?zqc2 ?zqc3 ?zqc4 ?zqc5; (case zqkA => exact rfl); (case zqkF => exact rfl); (case zqkK => first | exact rfl | assumption); (case zqk1 => k_asm); (case zqk2 => k_asm); (case zqk3 => k_asm); (case zqk4 => k_asm); (case zqk5 => k_asm); (case zqk6 => k_is); (case zqk7 => k_is); (case zqk8 => walk_at "KD"); (case zqk9 => first | exact BindsTo.of_eq rfl | exact binds_K (by k_in) rfl (by k_is) rfl rfl rfl | fail "ENTER: no rule for these arguments"); (case zqc5 => decide); (case zqkB => exact locs rfl); (case zqc2 => exact rfl); (case zqc3 => exact rfl); (case zqc4 => exact rfl); k_whole; intro g' L' h' tk' FG' mm F' N' B' X' T' qk ek)
  k_with "call ref" => (k_here; k_dflt (first | (refine' call_cls0 ?zqk1 ?zqk2 ?zqk3 ?zqk4 ?zqk5 ?_; (case zqk1 => k_asm); (case zqk2 => k_asm); (case zqk3 => k_asm); (case zqk4 => k_is); (case zqk5 => k_is); k_whole; intro x' d' h' F' N' l1 l2; (try k_lt l1); (try k_lt2 l2); (try k_sweep)) | (refine' call_cls ?zqk1 ?zqk2 ?zqk3 ?zqk4 ?zqk5 ?zqk6 ?_; (case zqk1 => k_asm); (case zqk2 => k_asm); (case zqk3 => k_asm); (case zqk4 => k_is); (case zqk5 => k_is); (case zqk6 => k_is); k_whole; intro x' d' h' F' N' l1 l2; (try k_lt l1); (try k_lt2 l2); (try k_sweep); walk_at "ENTER") | (refine' call_meth ?zqk1 ?zqk2 ?_; (case zqk1 => k_asm); (case zqk2 => k_mem); k_whole; walk_at "ENTER") | (refine wpAny_call ?_; walk_at "ENTER")))
  k_with "call builtin:len" => (k_here; (with_reducible show wpAny _ _ (call (Value.builtin "len") [Value.ref _]) _ _ _); k_dflt (refine' kst_len ?zqk1 ?zqk2 ?zqk3 ?zqk4 ?_; (case zqk1 => k_asm); (case zqk2 => k_mem); (case zqk3 => first | assumption | exact rfl); (case zqk4 => omega); k_whole))
  k_with "WhileStep2" => (first | (with_reducible show WhileStep2 _ _ _ _ _ _ (Flow.ret _) _) | (with_reducible show WhileStep2 _ _ _ _ _ _ Flow.brk _)); (dsimp only [WhileStep2])
  k_with "execs cons" => (k_here; refine wpAny_execs_cons (foldQ ?_); intro qs)
  k_with "storeName" => (k_here; (try dsimp only); k_dflt (refine' store_ ?zqF ?zqN ?_ ?zqa ?zqb; (case zqF => k_asm); (case zqN => k_asm); (case zqa => first | exact rfl | assumption); (case zqb => rfl); k_whole; intro h' tk' mm F' N'; (try k_sweep)))
  k_with "exec While Compare cons nil" => refine Halt.go ?_
  k_with "pyIter ref" => refine Halt.go ?_
  k_with "call type:enumerate" => refine Halt.go ?_
  k_with "KswEnd" => refine Halt.at (k := "KswEnd") (by assumption) ?_
  k_with "subscriptTail" => refine Halt.at (k := "subscriptTail") (by assumption) ?_
  k_with "eval ListComp" => refine Halt.at (k := "eval ListComp") (by assumption) ?_
  k_with "CompSrc" => refine Halt.at (k := "CompSrc") (by assumption) ?_
  k_with "CompEnd" => refine Halt.at (k := "CompEnd") (by assumption) ?_
  k_with "call ref" => refine Halt.at (k := "call ref") (by assumption) ?_
  k_with "call builtin:sorted" => refine Halt.at (k := "call builtin:sorted") (by assumption) ?_
  k_with "call builtin:repr" => refine Halt.at (k := "call builtin:repr") (by assumption) ?_
  k_with "unpackItems ref" => refine Halt.at (k := "unpackItems ref") (by assumption) ?_
  k_with "compareOp Eq ref ref" => refine Halt.at (k := "compareOp Eq ref ref") (by assumption) ?_
  k_with "call type:str" => refine Halt.at (k := "call type:str") (by assumption) ?_
  k_with "K4" => ((case zqk1 => k_asm); (case zqk2 => k_asm); (case zqk3 => k_asm); (case zqk4 => k_asm))
  k_with "K56" => ((case zqk5 => first | assumption | (with_unfolding_all assumption)); (case zqk6 => first | assumption | (with_unfolding_all assumption)))
  k_with "KN" => (k_whole; intro h' tj' n' F' N' hT' hK'; (try dsimp only); (try k_sweep))
  k_with "getAttr ref" => (k_here; (with_reducible show wpAny _ _ (getAttr (Value.ref _) (PySem.Str.ofString "free") _) _ _ _); k_dflt (refine' get_free ?zqk1 ?zqk2 ?zqk3 ?zqk4 ?_; walk_at "K4"; k_whole; intro tk' tj'; (try dsimp only)))
  k_with "getAttr ref" => (k_here; (with_reducible show wpAny _ _ (getAttr (Value.ref _) (PySem.Str.ofString "size") _) _ _ _); k_dflt (refine' get_size ?zqk1 ?zqk2 ?zqk3 ?zqk4 ?_; walk_at "K4"; k_whole; intro tk' tj'; (try dsimp only)))
  k_with "getAttr ref" => (k_here; (with_reducible show wpAny _ _ (getAttr (Value.ref _) (PySem.Str.ofString "array") _) _ _ _); k_dflt (refine' get_array ?zqk1 ?zqk2 ?zqk3 ?zqk4 ?_; walk_at "K4"; k_whole; intro tj'; (try dsimp only)))
  k_with "getAttr ref" => (k_here; (with_reducible show wpAny _ _ (getAttr (Value.ref _) (PySem.Str.ofString "nodes") _) _ _ _); k_dflt (refine' get_nodes ?zqk1 ?zqk2 ?zqk3 ?zqk4 ?_; walk_at "K4"; k_whole; intro tj'; (try dsimp only)))
  k_with "getAttr ref" => (k_here; (with_reducible show wpAny _ _ (getAttr (Value.ref _) (PySem.Str.ofString "key") _) _ _ _); k_dflt (first | (refine' get_key_none ?zqk1 ?zqk2 ?zqk3 ?zqk4 ?zqk5 ?zqk6 ?zqk7 ?_; walk_at "K4"; walk_at "K56"; (case zqk7 => assumption); k_whole; intro tj'; (try dsimp only)) | (refine' get_key_some ?zqk1 ?zqk2 ?zqk3 ?zqk4 ?zqk5 ?zqk6 ?zqk7 ?_; walk_at "K4"; walk_at "K56"; (case zqk7 => assumption); k_whole; intro kv' tj' hkv'; (try dsimp only)) | (refine' get_key_any ?zqk1 ?zqk2 ?zqk3 ?zqk4 ?zqk5 ?zqk6 ?_; walk_at "K4"; walk_at "K56"; k_whole; intro kv' tj' hkv'; (try dsimp only))))
  k_with "getAttr ref" => (k_here; (with_reducible show wpAny _ _ (getAttr (Value.ref _) (PySem.Str.ofString "value") _) _ _ _); k_dflt (refine' get_value ?zqk1 ?zqk2 ?zqk3 ?zqk4 ?zqk5 ?zqk6 ?_; walk_at "K4"; walk_at "K56"; k_whole; intro tj'; (try dsimp only)))
  k_with "getAttr ref" => (k_here; (with_reducible show wpAny _ _ (getAttr (Value.ref _) (PySem.Str.ofString "next") _) _ _ _); k_dflt (refine' get_next ?zqk1 ?zqk2 ?zqk3 ?zqk4 ?zqk5 ?zqk6 ?_; walk_at "K4"; walk_at "K56"; k_whole; intro tk' tj'; (try dsimp only)))
  k_with "setAttr ref" => (k_here; (with_reducible show wpAny _ _ (setAttr (Value.ref _) (PySem.Str.ofString "free") _) _ _ _); k_dflt (refine' set_free ?zqk1 ?zqk2 ?zqk3 ?zqk4 ?_; walk_at "K4"; walk_at "KN"))
  k_with "setAttr ref" => (k_here; (with_reducible show wpAny _ _ (setAttr (Value.ref _) (PySem.Str.ofString "size") _) _ _ _); k_dflt (refine' set_size ?zqk1 ?zqk2 ?zqk3 ?zqk4 ?_; walk_at "K4"; walk_at "KN"))
  k_with "setAttr ref" => (k_here; (with_reducible show wpAny _ _ (setAttr (Value.ref _) (PySem.Str.ofString "flags") _) _ _ _); k_dflt (refine' set_flags ?zqk1 ?zqk2 ?zqk3 ?zqk4 ?_; walk_at "K4"; walk_at "KN"))
  k_with "setAttr ref" => (k_here; (with_reducible show wpAny _ _ (setAttr (Value.ref _) (PySem.Str.ofString "log_nodes") _) _ _ _); k_dflt (refine' set_log_nodes ?zqk1 ?zqk2 ?zqk3 ?zqk4 ?_; walk_at "K4"; walk_at "KN"))
  k_with "setAttr ref" => (k_here; (with_reducible show wpAny _ _ (setAttr (Value.ref _) (PySem.Str.ofString "key") _) _ _ _); k_dflt (refine' set_key ?zqk1 ?zqk2 ?zqk3 ?zqk4 ?zqk5 ?zqk6 ?zqk7 ?_; walk_at "K4"; walk_at "K56"; (case zqk7 => first | assumption | exact KV.none); walk_at "KN"))
  k_with "setAttr ref" => (k_here; (with_reducible show wpAny _ _ (setAttr (Value.ref _) (PySem.Str.ofString "value") _) _ _ _); k_dflt (refine' set_value ?zqk1 ?zqk2 ?zqk3 ?zqk4 ?zqk5 ?zqk6 ?zqk7 ?_; walk_at "K4"; walk_at "K56"; (case zqk7 => first | assumption | rfl); walk_at "KN"))
  k_with "setAttr ref" => (k_here; (with_reducible show wpAny _ _ (setAttr (Value.ref _) (PySem.Str.ofString "next") _) _ _ _); k_dflt (refine' set_next ?zqk1 ?zqk2 ?zqk3 ?zqk4 ?zqk5 ?zqk6 ?_; walk_at "K4"; walk_at "K56"; walk_at "KN"))
  k_with "getMethod ref" => (k_here; (with_reducible show wpAny _ _ (getMethod (Value.ref _) _ _) _ _ _); k_dflt (refine' tab_meth ?zqk1 ?zqk2 ?zqk3 ?zqk4 ?zqk5 ?zqk6 ?zqk7 ?zqk8 ?_; walk_at "K4"; (case zqk5 => k_is); (case zqk6 => k_is); (case zqk7 => k_is); (case zqk8 => decide +kernel); k_whole))
  k_with "call builtin:len" => (k_here; (with_reducible show wpAny _ _ (call (Value.builtin "len") [Value.ref _]) _ _ _); k_dflt (first | (refine' len_nodes ?zqk3 ?zqk4 ?_; (case zqk3 => k_asm); (case zqk4 => k_asm); k_whole; intro tk' tj'; (try dsimp only)) | (refine' len_arr ?zqk3 ?zqk4 ?_; (case zqk3 => k_asm); (case zqk4 => k_asm); k_whole; intro tk' tj'; (try dsimp only))))
  k_with "subscriptTail" => (k_here; (with_reducible show wpAny _ _ (subscriptTail _ _ (Value.ref _) (Value.int _ _)) _ _ _); k_dflt (first | (refine' item_node ?zqk3 ?zqk4 ?zqk5 ?zqk6 ?_ ?zqk7; (case zqk3 => k_asm); (case zqk4 => k_asm); (case zqk5 => assumption); (case zqk6 => first | assumption | omega); (case zqk7 => with_unfolding_all rfl); k_whole) | (refine' item_arr ?zqk3 ?zqk4 ?zqk5 ?zqk6 ?_ ?zqk7; (case zqk3 => k_asm); (case zqk4 => k_asm); (case zqk5 => assumption); (case zqk6 => first | assumption | omega); (case zqk7 => with_unfolding_all rfl); k_whole)))
  k_with "setItem ref int" => (k_here; (with_reducible show wpAny _ _ (setItem (Value.ref _) (Value.int _ _) _) _ _ _); k_dflt (refine' set_arr ?zqk1 ?zqk3 ?zqk4 ?zqk5 ?zqk6 ?_; (case zqk1 => k_asm); (case zqk3 => k_asm); (case zqk4 => k_asm); (case zqk5 => omega); (case zqk6 => (try dsimp only); omega); k_whole; intro h' n' F' N' hT' hK'; (try dsimp only); (try k_sweep)))
  k_with "call builtin:list.append" => (k_here; (with_reducible show wpAny _ _ (call (Value.builtin _) [Value.ref _, _]) _ _ _); k_dflt (refine' app_arr ?zqk1 ?zqk3 ?zqk4 ?zqk5 ?_; (case zqk1 => k_asm); (case zqk3 => k_asm); (case zqk4 => k_asm); (case zqk5 => (try dsimp only); omega); k_whole; intro h' n' F' N' hT' hK'; (try dsimp only); (try k_sweep)))
  k_with "compareOp Is" => (k_here; (with_reducible show wpAny _ _ (compareOp CmpOp.Is _ Value.none) _ _ _); k_dflt (refine' kv_isnone ?zqk1 ?_; (case zqk1 => assumption); k_whole))
  k_with "exec For Name Name cons nil" => (k_here; (rename Fr _ _ _ _ => lF'); (with_unfolding_all refine' For_invVF lF' ?zqk1 ?zqk2 ?_; (case zqk1 => exact rfl); (case zqk2 => exact rfl); k_whole))
  k_with "exec For Name Call cons nil" => (k_here; (rename Fr _ _ _ _ => lF'); (with_unfolding_all refine' For_invVF lF' ?zqk1 ?zqk2 ?_; (case zqk1 => exact rfl); (case zqk2 => exact rfl); k_whole))
  k_with "exec For Name Attribute cons nil" => (k_here; (rename Fr _ _ _ _ => lF'); (with_unfolding_all refine' For_invVF lF' ?zqk1 ?zqk2 ?_; (case zqk1 => exact rfl); (case zqk2 => exact rfl); k_whole))
  k_with "TP" => ((first | (with_reducible show Mine.TP _ _ _ _ _ _ (Flow.ret _) _) | (with_reducible show Mine.TP _ _ _ _ _ _ Flow.brk _) | (with_reducible show Mine.TP _ _ _ _ _ _ Flow.next _) | (with_reducible show Mine.TP _ _ _ _ _ _ Flow.cont _)); (dsimp only [Mine.TP]))
  k_with "compareOp Is" => (k_here; (with_reducible show wpAny _ _ (compareOp CmpOp.Is _ Value.none) _ _ _); k_dflt (first | (refine' is_eq ?zqk1 ?_; (case zqk1 => assumption); k_whole) | (refine' is_ne ?zqk1 ?_; (case zqk1 => assumption); k_whole)))
  k_with "compareOp IsNot" => (k_here; (with_reducible show wpAny _ _ (compareOp CmpOp.IsNot _ Value.none) _ _ _); k_dflt (first | (refine' isnot_eq ?zqk1 ?_; (case zqk1 => assumption); k_whole) | (refine' isnot_ne ?zqk1 ?_; (case zqk1 => assumption); k_whole)))
  exact trivial

open PySem.Calls PyProof.V PySem.Spec
noncomputable def iterCls : List String := ["list_iterator", "list_reverseiterator", "enumerate", "range_iterator"]
noncomputable def IterLed (its : Led) : Prop := ∀ q ∈ its, ∃ c ∈ iterCls, q.2.cls = .type c
noncomputable def offl (its : Led) (n : Led) : Led := n.filter fun p => its.all fun q => decide (p.1 ≠ q.1)
theorem mem_offl {its n : Led} {p : Addr × Obj} : p ∈ offl its n ↔ p ∈ n ∧ ∀ q ∈ its, p.1 ≠ q.1 := by
  unfold offl; rw [List.mem_filter]; simp
theorem offl_mem {h₀ h : Heap} {L : Addr} {its n : Led} {p : Addr × Obj} (N : News h₀ L h n) (sub : ∀ q ∈ its, q ∈ n) (hI : IterLed its) (hp : p ∈ n) (hc : ∀ c ∈ iterCls, p.2.cls ≠ .type c) : p ∈ offl its n :=
  mem_offl.mpr ⟨hp, fun q hq e => by
    obtain ⟨c, hcm, hcc⟩ := hI q hq
    have : p.2 = q.2 := News.fn (a := p.1) N hp (by rw [e]; exact sub q hq)
    exact hc c hcm (this ▸ hcc)⟩
theorem iter_dict {es : List DictEntry} {n : Nat} : ∀ c ∈ iterCls, (dictOf es n).cls ≠ .type c := by
  intro c hc e; simp only [iterCls, List.mem_cons, List.not_mem_nil, or_false] at hc; rcases hc with rfl | rfl | rfl | rfl <;> simp at e
theorem iter_list {vs : Array Value} {n : Nat} : ∀ c ∈ iterCls, (listOf vs n).cls ≠ .type c := by
  intro c hc e; simp only [iterCls, List.mem_cons, List.not_mem_nil, or_false] at hc; rcases hc with rfl | rfl | rfl | rfl <;> simp at e
theorem iter_inst {C d : Addr} : ∀ c ∈ iterCls, (instObj C d).cls ≠ .type c := by intro c hc e; cases e
theorem TabIn.offl {h₀ h : Heap} {L : Addr} {its n : Led} {t : Addr} {Y : Lay} {T : Tab} (N : News h₀ L h n) (sub : ∀ q ∈ its, q ∈ n) (hI : IterLed its) (hT : TabIn n t Y T) : TabIn (Mine.offl its n) t Y T := by
  obtain ⟨hi, ⟨o, ho, hd⟩, ⟨ca, ha⟩, ⟨cn, hn⟩, hl, hnode, hdis, haln, h1, h2⟩ := hT
  refine ⟨offl_mem N sub hI hi iter_inst, ⟨o, ho, offl_mem N sub hI hd (by cases ho; exact iter_dict)⟩, ⟨ca, offl_mem N sub hI ha iter_list⟩, ⟨cn, offl_mem N sub hI hn iter_list⟩, hl, fun i p x hp hx => ?_, hdis, haln, h1, h2⟩
  obtain ⟨hin, hv, kv, o2, k1, k2, k3⟩ := hnode i p x hp hx
  exact ⟨offl_mem N sub hI hin iter_inst, hv, kv, o2, k1, k2, offl_mem N sub hI k3 (by cases k2; exact iter_dict)⟩

structure TE (h₀ : Heap) (L : Addr) (s : Shared) (its : Led) (G : (Str → Option Value) → Led → Prop) (s₂ : Shared) : Prop where
  out : ∃ h' tk m' n', s₂ = { s with heap := h', toks := tk } ∧ Fr h₀ L h' m' ∧ News h₀ L h' n' ∧ (∀ p ∈ its, p ∈ n') ∧ G m' (offl its n')
noncomputable def TP (h₀ : Heap) (L : Addr) (s : Shared) (its : Led) (G : (Str → Option Value) → Led → Prop) (Q : Flow → Shared → Prop) (f : Flow) (s₂ : Shared) : Prop :=
  match f with
  | .ret v => Q (.ret v) s₂
  | .brk => Q .next s₂
  | _ => TE h₀ L s its G s₂
noncomputable def GS {σ ι : Type} (x : Str) (ps : σ → List (Str × Value)) (stored : List Str) (m₀ : Str → Option Value) (R : ι → σ → Led → Prop) : ι → (Str → Option Value) → Led → Prop :=
  fun r m n => ∃ c, (∀ p ∈ ps c, m p.1 = some p.2) ∧ (∀ z, z ≠ x → (∀ p ∈ ps c, z ≠ p.1) → stored.contains z = false → m z = m₀ z) ∧ R r c n
theorem te_end {σ ι : Type} {x : Str} {ps : σ → List (Str × Value)} {stored : List Str} {m₀ m' : Str → Option Value} {R : ι → σ → Led → Prop} {r : ι} {h₀ h' : Heap} {L : Addr} {s : Shared} {its n' : Led} {tk : Nat} (c' : σ)
    (F : Fr h₀ L h' m') (N : News h₀ L h' n') (sub : ∀ p ∈ its, p ∈ n') (hk : ∀ p ∈ ps c', m' p.1 = some p.2) (hr : ∀ z, z ≠ x → (∀ p ∈ ps c', z ≠ p.1) → stored.contains z = false → m' z = m₀ z) (hR : R r c' (offl its n')) :
    TE h₀ L s its (GS x ps stored m₀ R r) { s with heap := h', toks := tk } := ⟨_, _, _, _, rfl, F, N, sub, c', hk, hr, hR⟩

section
variable {prog : Program} {w : World} {A : Around} {E : Value → Shared → Prop} {s : Shared} {env : Env} {h₀ : Heap} {x : Str} {body : List Stmt} {Q : Flow → Shared → Prop}
theorem off_cons {I : Addr} {it : Obj} {n' : Led} (sub : ∀ p ∈ [(I, it)], p ∈ n') {h : Heap} {L : Addr} (N : News h₀ L h n') : News h₀ L h ((I, it) :: offl [(I, it)] n') ∧ ∀ p ∈ offl [(I, it)] n', p.1 ≠ I := by
  refine ⟨fun p hp => ?_, fun p hp => (mem_offl.mp hp).2 _ (.head _)⟩
  rcases List.mem_cons.mp hp with rfl | hp
  · exact N _ (sub _ (.head _))
  · exact N _ (mem_offl.mp hp).1
theorem for_list {σ : Type} {ax : Addr} {lo : Obj} {vs : List Value} {n : Nat} {m₀ : Str → Option Value} {news : Led} (ps : σ → List (Str × Value)) (stored : List Str) (R : List Value → σ → Led → Prop) (c₀ : σ)
    (hh : A.handled = none) (F : Fr h₀ env.locals s.heap m₀) (N : News h₀ env.locals s.heap news) (hm : (ax, lo) ∈ news) (hc : lo.cls = .type "list") (hd : lo.data = .seq vs.toArray n)
    (keep : ∀ r c n, R r c n → (ax, lo) ∈ n) (hk : ∀ p ∈ ps c₀, m₀ p.1 = some p.2) (start : R vs c₀ news)
    (turn : ∀ c v r (u : Str → Option Value) nw I it h tk, it.cls = .type "list_iterator" → (∀ p ∈ nw, p.1 ≠ I) → R (v :: r) c nw → Fr h₀ env.locals h (fun y => if y = x then some v else kstB (fun z => if stored.contains z then u z else m₀ z) (ps c) y) → News h₀ env.locals h ((I, it) :: nw) →
      wpAny (model prog w) A (execs body env) (TP h₀ env.locals { s with heap := h, toks := tk } [(I, it)] (GS x ps stored m₀ R r) Q) E { s with heap := h, toks := tk })
    (done : ∀ c (u : Str → Option Value) nw h tk, R [] c nw → Fr h₀ env.locals h (fun y => if y = x then u y else kstB (fun z => if stored.contains z then u z else m₀ z) (ps c) y) → News h₀ env.locals h nw → Q .next { s with heap := h, toks := tk }) :
    wpAny (model prog w) A (pyIter (.ref ax)) (fun it s₂ => LoopAtV prog w A h₀ env x body Q E it s₂) E s := by
  refine iter_listUnr hh F N hm hc hd fun I hI0 => ?_
  have H : ∀ r m nw, (∀ p ∈ nw, p.1 ≠ I) → GS x ps stored m₀ R r m nw → ListRest prog w A E h₀ env x body Q s I (ax, lo) r m nw := by
    intro r
    induction r with
    | nil => rintro m nw _ ⟨c, h1, h2, hR⟩; exact .zero fun h tk F' N' => done c m nw h tk hR (kst_frOut h1 h2 F') N'
    | cons v r ih =>
      rintro m nw hI ⟨c, h1, h2, hR⟩
      refine .succ fun it h tk hcl F' N' => wpAny_mono (turn c v r m nw I it h tk hcl hI hR (kst_fr h1 h2 F') N') (fun f s₂ p => ?_) fun _ _ e => e
      cases f with
      | ret v => exact p
      | brk => exact p
      | next =>
        obtain ⟨h', tk', m', n', rfl, F₂, N₂, sub, G⟩ := p.out
        have q := off_cons sub N₂
        obtain ⟨c', g1, g2, g3⟩ := G
        exact ⟨h', tk', m', _, rfl, F₂, q.1, q.2, keep _ _ _ g3, ih _ _ q.2 ⟨c', g1, g2, g3⟩⟩
      | cont =>
        obtain ⟨h', tk', m', n', rfl, F₂, N₂, sub, G⟩ := p.out
        have q := off_cons sub N₂
        obtain ⟨c', g1, g2, g3⟩ := G
        exact ⟨h', tk', m', _, rfl, F₂, q.1, q.2, keep _ _ _ g3, ih _ _ q.2 ⟨c', g1, g2, g3⟩⟩
  exact H vs m₀ news (fun p hp => Nat.ne_of_lt (hI0 p hp)) ⟨c₀, hk, fun _ _ _ _ => rfl, start⟩
theorem for_rev {σ : Type} {ax I : Addr} {lo : Obj} {vs : List Value} {n : Nat} {m₀ : Str → Option Value} {news : Led} (ps : σ → List (Str × Value)) (stored : List Str) (R : List Value → σ → Led → Prop) (c₀ : σ)
    (hh : A.handled = none) (F : Fr h₀ env.locals s.heap m₀) (N : News h₀ env.locals s.heap ((I, revObj ax ((vs.length : Int) - 1)) :: news)) (hof : ∀ p ∈ news, p.1 ≠ I) (hm : (ax, lo) ∈ news) (hc : lo.cls = .type "list") (hd : lo.data = .seq vs.toArray n)
    (keep : ∀ r c n, R r c n → (ax, lo) ∈ n) (hk : ∀ p ∈ ps c₀, m₀ p.1 = some p.2) (start : R vs.reverse c₀ news)
    (turn : ∀ c v r (u : Str → Option Value) nw it h tk, it.cls = .type "list_reverseiterator" → (∀ p ∈ nw, p.1 ≠ I) → R (v :: r) c nw → Fr h₀ env.locals h (fun y => if y = x then some v else kstB (fun z => if stored.contains z then u z else m₀ z) (ps c) y) → News h₀ env.locals h ((I, it) :: nw) →
      wpAny (model prog w) A (execs body env) (TP h₀ env.locals { s with heap := h, toks := tk } [(I, it)] (GS x ps stored m₀ R r) Q) E { s with heap := h, toks := tk })
    (done : ∀ c (u : Str → Option Value) nw h tk, R [] c nw → Fr h₀ env.locals h (fun y => if y = x then u y else kstB (fun z => if stored.contains z then u z else m₀ z) (ps c) y) → News h₀ env.locals h nw → Q .next { s with heap := h, toks := tk }) :
    wpAny (model prog w) A (pyIter (.ref I)) (fun it s₂ => LoopAtV prog w A h₀ env x body Q E it s₂) E s := by
  have offI : ∀ l : Led, (∀ p ∈ l, p.1 ≠ I) → OffI I (revObj ax ((vs.length : Int) - 1)) l := by
    intro l
    induction l with
    | nil => intro _; trivial
    | cons p r ih => intro h; exact ⟨.inl (h p (.head _)), ih fun q hq => h q (.tail _ hq)⟩
  refine iter_revUnr hh F N (offI _ hof) hm hc hd ?_
  have H : ∀ r m nw, (∀ p ∈ nw, p.1 ≠ I) → GS x ps stored m₀ R r m nw → RevRest prog w A E h₀ env x body Q s I (ax, lo) r m nw := by
    intro r
    induction r with
    | nil => rintro m nw _ ⟨c, h1, h2, hR⟩; exact .zero fun h tk F' N' => done c m nw h tk hR (kst_frOut h1 h2 F') N'
    | cons v r ih =>
      rintro m nw hI ⟨c, h1, h2, hR⟩
      refine .succ fun it h tk hcl F' N' => wpAny_mono (turn c v r m nw it h tk hcl hI hR (kst_fr h1 h2 F') N') (fun f s₂ p => ?_) fun _ _ e => e
      cases f with
      | ret v => exact p
      | brk => exact p
      | next =>
        obtain ⟨h', tk', m', n', rfl, F₂, N₂, sub, G⟩ := p.out
        have q := off_cons sub N₂
        obtain ⟨c', g1, g2, g3⟩ := G
        exact ⟨h', tk', m', _, rfl, F₂, q.1, q.2, keep _ _ _ g3, ih _ _ q.2 ⟨c', g1, g2, g3⟩⟩
      | cont =>
        obtain ⟨h', tk', m', n', rfl, F₂, N₂, sub, G⟩ := p.out
        have q := off_cons sub N₂
        obtain ⟨c', g1, g2, g3⟩ := G
        exact ⟨h', tk', m', _, rfl, F₂, q.1, q.2, keep _ _ _ g3, ih _ _ q.2 ⟨c', g1, g2, g3⟩⟩
  exact H vs.reverse m₀ news hof ⟨c₀, hk, fun _ _ _ _ => rfl, start⟩
theorem for_range {σ : Type} {r : Addr} {a₀ b₀ : Int} {t₀ u₀ v₀ : Tok} {n : Nat} {m₀ : Str → Option Value} {news : Led} (ps : σ → List (Str × Value)) (stored : List Str) (R : Nat → σ → Led → Prop) (c₀ : σ)
    (hh : A.handled = none) (hr : IsRange s.heap r a₀ b₀ 1 t₀ u₀ v₀) (hsmall : Builtin.Range.small a₀ b₀ 1 = true) (hn : Builtin.Range.rangeSize a₀ b₀ 1 = (n : Int)) (F : Fr h₀ env.locals s.heap m₀) (N : News h₀ env.locals s.heap news)
    (hk : ∀ p ∈ ps c₀, m₀ p.1 = some p.2) (start : R 0 c₀ news)
    (turn : ∀ c (i : Nat) t (u : Str → Option Value) nw I it h tk, i < n → it.cls = .type "range_iterator" → (∀ p ∈ nw, p.1 ≠ I) → R i c nw → Fr h₀ env.locals h (fun y => if y = x then some (.int (a₀ + (i : Int)) t) else kstB (fun z => if stored.contains z then u z else m₀ z) (ps c) y) → News h₀ env.locals h ((I, it) :: nw) →
      wpAny (model prog w) A (execs body env) (TP h₀ env.locals { s with heap := h, toks := tk } [(I, it)] (GS x ps stored m₀ R (i + 1)) Q) E { s with heap := h, toks := tk })
    (done : ∀ c (u : Str → Option Value) nw h tk, R n c nw → Fr h₀ env.locals h (fun y => if y = x then u y else kstB (fun z => if stored.contains z then u z else m₀ z) (ps c) y) → News h₀ env.locals h nw → Q .next { s with heap := h, toks := tk }) :
    wpAny (model prog w) A (pyIter (.ref r)) (fun it s₂ => LoopAtV prog w A h₀ env x body Q E it s₂) E s := by
  refine iter_rangeUnr hh hr hsmall hn F N fun I hI0 => ?_
  have H : ∀ k i m nw, i + k = n → (∀ p ∈ nw, p.1 ≠ I) → GS x ps stored m₀ R i m nw → RangeRest prog w A E h₀ env x body Q s I a₀ n k i m nw := by
    intro k
    induction k with
    | zero => rintro i m nw e _ ⟨c, h1, h2, hR⟩; exact .zero fun h tk F' N' => done c m nw h tk (by rw [show n = i by omega]; exact hR) (kst_frOut h1 h2 F') N'
    | succ k ih =>
      rintro i m nw e hI ⟨c, h1, h2, hR⟩
      refine .succ fun t h tk F' N' => wpAny_mono (turn c i t m nw I _ h tk (by omega) rfl hI hR (kst_fr h1 h2 F') N') (fun f s₂ p => ?_) fun _ _ e => e
      cases f with
      | ret v => exact p
      | brk => exact p
      | next =>
        obtain ⟨h', tk', m', n', rfl, F₂, N₂, sub, G⟩ := p.out
        have q := off_cons sub N₂
        exact ⟨h', tk', m', _, rfl, F₂, q.1, q.2, ih _ _ _ (by omega) q.2 G⟩
      | cont =>
        obtain ⟨h', tk', m', n', rfl, F₂, N₂, sub, G⟩ := p.out
        have q := off_cons sub N₂
        exact ⟨h', tk', m', _, rfl, F₂, q.1, q.2, ih _ _ _ (by omega) q.2 G⟩
  exact H n 0 m₀ news (by omega) (fun p hp => Nat.ne_of_lt (hI0 p hp)) ⟨c₀, hk, fun _ _ _ _ => rfl, start⟩
noncomputable def GT {σ ι : Type} (ps : σ → List (Str × Value)) (stored : List Str) (m₀ : Str → Option Value) (R : ι → σ → Led → Prop) : ι → (Str → Option Value) → Led → Prop :=
  fun r m n => ∃ c, (∀ p ∈ ps c, m p.1 = some p.2) ∧ (∀ z, (∀ p ∈ ps c, z ≠ p.1) → stored.contains z = false → m z = m₀ z) ∧ R r c n
theorem te_endT {σ ι : Type} {ps : σ → List (Str × Value)} {stored : List Str} {m₀ m' : Str → Option Value} {R : ι → σ → Led → Prop} {r : ι} {h₀ h' : Heap} {L : Addr} {s : Shared} {its n' : Led} {tk : Nat} (c' : σ)
    (F : Fr h₀ L h' m') (N : News h₀ L h' n') (sub : ∀ p ∈ its, p ∈ n') (hk : ∀ p ∈ ps c', m' p.1 = some p.2) (hr : ∀ z, (∀ p ∈ ps c', z ≠ p.1) → stored.contains z = false → m' z = m₀ z) (hR : R r c' (offl its n')) :
    TE h₀ L s its (GT ps stored m₀ R r) { s with heap := h', toks := tk } := ⟨_, _, _, _, rfl, F, N, sub, c', hk, hr, hR⟩
theorem for_enum {σ : Type} {elts : List Expr} {k : Nat} {pos : Pos} {l : Addr} {lo : Obj} {vs : List Value} {n : Nat} {m₀ : Str → Option Value} {news : Led} (ps : σ → List (Str × Value)) (stored : List Str) (R : List Value → σ → Led → Prop) (c₀ : σ)
    (hh : A.handled = none) (F : Fr h₀ env.locals s.heap m₀) (N : News h₀ env.locals s.heap news) (hm : (l, lo) ∈ news) (hc : lo.cls = .type "list") (hd : lo.data = .seq vs.toArray n)
    (keep : ∀ r c n, R r c n → (l, lo) ∈ n) (hk : ∀ p ∈ ps c₀, m₀ p.1 = some p.2) (start : R vs c₀ news)
    (turn : ∀ c v r (u : Str → Option Value) nw I T t e it h tk, e.cls = .type "enumerate" → it.cls = .type "list_iterator" → (∀ p ∈ nw, p.1 ≠ I + 1 ∧ p.1 ≠ I) → R (v :: r) c nw → IsTup h T #[.int (((vs.length - (r.length + 1) : Nat)) : Int) t, v] → Fr h₀ env.locals h (kstB (fun z => if stored.contains z then u z else m₀ z) (ps c)) → News h₀ env.locals h ((I + 1, e) :: (I, it) :: nw) →
      wpAny (model prog w) A (assign (.Tuple elts k pos) env (.ref T)) (fun _ s₂ => wpAny (model prog w) A (execs body env) (TP h₀ env.locals { s with heap := h, toks := tk } [(I + 1, e), (I, it)] (GT ps stored m₀ R r) Q) E s₂) E { s with heap := h, toks := tk })
    (done : ∀ c (u : Str → Option Value) nw h tk, R [] c nw → Fr h₀ env.locals h (kstB (fun z => if stored.contains z then u z else m₀ z) (ps c)) → News h₀ env.locals h nw → Q .next { s with heap := h, toks := tk }) :
    wpAny (model prog w) A (call (.type "enumerate") [.ref l]) (fun xv s₁ => wpAny (model prog w) A (pyIter xv) (fun it s₂ => TurnsAt prog w A h₀ env (.Tuple elts k pos) body Q E it s₂) E s₁) E s := by
  refine ktu_enum hh F N hm hc hd rfl fun I hI0 => ?_
  have H : ∀ r i m nw, i + r.length = vs.length → (∀ p ∈ nw, p.1 ≠ I + 1 ∧ p.1 ≠ I) → GT ps stored m₀ R r m nw → ItemsRest prog w A E h₀ env (.Tuple elts k pos) body Q s [(I + 1, "enumerate"), (I, "list_iterator")] [(l, lo)] (enumItems i r) m nw := by
    intro r
    induction r with
    | nil => rintro i m nw e _ ⟨c, h1, h2, hR⟩; exact .zero fun h tk F' N' => done c m nw h tk hR (ksw_fr h1 h2 F') N'
    | cons v r ih =>
      rintro i m nw e hI ⟨c, h1, h2, hR⟩
      refine ItemsRest.pair fun T t h tk hT F' => AllObj.cons fun o1 ho1 => AllObj.cons fun o2 ho2 => AllObj.nil fun N' => ?_
      have ei : i = vs.length - (r.length + 1) := by simp only [List.length_cons] at e; omega
      refine wpAny_mono (turn c v r m nw I T t o1 o2 h tk ho1 ho2 hI hR (ei ▸ hT) (ksw_fr h1 h2 F') N') (fun _ s₂ p => wpAny_mono p (fun f s₃ p => ?_) fun _ _ e => e) fun _ _ e => e
      have fin : TE h₀ env.locals { s with heap := h, toks := tk } [(I + 1, o1), (I, o2)] (GT ps stored m₀ R r) s₃ → UnrEndW h₀ env.locals { s with heap := h, toks := tk } [(I + 1, o1), (I, o2)] (fun m' n' => SubL [(l, lo)] n' ∧ ItemsRest prog w A E h₀ env (.Tuple elts k pos) body Q s [(I + 1, "enumerate"), (I, "list_iterator")] [(l, lo)] (enumItems (i + 1) r) m' n') s₃ := by
        intro p
        obtain ⟨h', tk', m', n', rfl, F₂, N₂, sub, G⟩ := p.out
        obtain ⟨c', g1, g2, g3⟩ := G
        refine ⟨h', tk', m', _, rfl, F₂, fun p hp => ?_, fun p hp q hq => (mem_offl.mp hp).2 q hq, ⟨keep _ _ _ g3, trivial⟩, ih _ _ _ (by simp only [List.length_cons] at e; omega) (fun p hp => ⟨(mem_offl.mp hp).2 _ (.head _), (mem_offl.mp hp).2 _ (.tail _ (.head _))⟩) ⟨c', g1, g2, g3⟩⟩
        rcases List.mem_append.mp hp with hp | hp
        · exact N₂ _ (sub _ hp)
        · exact N₂ _ (mem_offl.mp hp).1
      cases f with
      | ret v => exact p
      | brk => exact p
      | next => exact fin p
      | cont => exact fin p
  exact H vs 0 m₀ news (by omega) (fun p hp => ⟨Nat.ne_of_lt (Nat.lt_succ_of_lt (hI0 p hp)), Nat.ne_of_lt (hI0 p hp)⟩) ⟨c₀, hk, fun _ _ _ => rfl, start⟩
end

end
section
theorem wd_P14_0 : True := by
  k_with_none
  exact trivial
theorem wd_P14_19 : True := by
  k_with "KD" => first | exact dlt (by assumption) (by first | decide | omega) | exact dlt1 (by assumption) (by first | decide | omega) | exact dlt0 (by assumption) | ktr_room
  k_with "KU" => first | exact ult (by assumption) (by first | decide | omega) | ktr_units
  k_with "ENTER" => (refine' enter_ ?zqk1 ?zqk2 ?zqk3 ?zqk4 ?zqk5 ?zqkA ?zqkF ?zqkK ?zqk6 ?zqk7 ?zqk8 ?zqk9 ?zqkB ?_ ?zqc2 ?zqc3 ?zqc4 ?zqc5; (case zqkA => exact rfl); (case zqkF => exact rfl); (case zqkK => first | exact rfl | assumption); (case zqk1 => k_asm); (case zqk2 => k_asm); (case zqk3 => k_asm); (case zqk4 => k_asm); (case zqk5 => k_asm); (case zqk6 => k_is); (case zqk7 => k_is); (case zqk8 => walk_at "KD"); (case zqk9 => first | exact BindsTo.of_eq rfl | exact binds_K (by k_in) rfl (by k_is) rfl rfl rfl | fail "ENTER: no rule for these arguments"); (case zqc5 => decide); (case zqkB => exact locs rfl); (case zqc2 => exact rfl); (case zqc3 => exact rfl); (case zqc4 => exact rfl); k_whole; intro g' L' h' tk' FG' mm F' N' B' X' T' qk ek)
  k_with "call ref" => (k_here; k_dflt (first | (refine' call_cls0 ?zqk1 ?zqk2 ?zqk3 ?zqk4 ?zqk5 ?_; (case zqk1 => k_asm); (case zqk2 => k_asm); (case zqk3 => k_asm); (case zqk4 => k_is); (case zqk5 => k_is); k_whole; intro x' d' h' F' N' l1 l2; (try k_lt l1); (try k_lt2 l2); (try k_sweep)) | (refine' call_cls ?zqk1 ?zqk2 ?zqk3 ?zqk4 ?zqk5 ?zqk6 ?_; (case zqk1 => k_asm); (case zqk2 => k_asm); (case zqk3 => k_asm); (case zqk4 => k_is); (case zqk5 => k_is); (case zqk6 => k_is); k_whole; intro x' d' h' F' N' l1 l2; (try k_lt l1); (try k_lt2 l2); (try k_sweep); walk_at "ENTER") | (refine' call_meth ?zqk1 ?zqk2 ?_; (case zqk1 => k_asm); (case zqk2 => k_mem); k_whole; walk_at "ENTER") | (refine wpAny_call ?_; walk_at "ENTER")))
  k_with "call builtin:len" => (k_here; (with_reducible show wpAny _ _ (call (Value.builtin "len") [Value.ref _]) _ _ _); k_dflt (refine' kst_len ?zqk1 ?zqk2 ?zqk3 ?zqk4 ?_; (case zqk1 => k_asm); (case zqk2 => k_mem); (case zqk3 => first | assumption | exact rfl); (case zqk4 => omega); k_whole))
  k_with "WhileStep2" => (first | (with_reducible show WhileStep2 _ _ _ _ _ _ (Flow.ret _) _) | (with_reducible show WhileStep2 _ _ _ _ _ _ Flow.brk _)); (dsimp only [WhileStep2])
  k_with "execs cons" => (k_here; refine wpAny_execs_cons (foldQ ?_); intro qs)
  k_with "storeName" => (k_here; (try dsimp only); k_dflt (refine' store_ ?zqF ?zqN ?_ ?zqa ?zqb; (case zqF => k_asm); (case zqN => k_asm); (case zqa => first | exact rfl | assumption); (case zqb => rfl); k_whole; intro h' tk' mm F' N'; (try k_sweep)))
  k_with "exec While Compare cons nil" => refine Halt.go ?_
  k_with "pyIter ref" => refine Halt.go ?_
  k_with "call type:enumerate" => refine Halt.go ?_
  k_with "KswEnd" => refine Halt.at (k := "KswEnd") (by assumption) ?_
  k_with "subscriptTail" => refine Halt.at (k := "subscriptTail") (by assumption) ?_
  k_with "eval ListComp" => refine Halt.at (k := "eval ListComp") (by assumption) ?_
  k_with "CompSrc" => refine Halt.at (k := "CompSrc") (by assumption) ?_
  k_with "CompEnd" => refine Halt.at (k := "CompEnd") (by assumption) ?_
  k_with "call ref" => refine Halt.at (k := "call ref") (by assumption) ?_
  k_with "call builtin:sorted" => refine Halt.at (k := "call builtin:sorted") (by assumption) ?_
  k_with "call builtin:repr" => refine Halt.at (k := "call builtin:repr") (by assumption) ?_
  k_with "unpackItems ref" => refine Halt.at (k := "unpackItems ref") (by assumption) ?_
  k_with "compareOp Eq ref ref" => refine Halt.at (k := "compareOp Eq ref ref") (by assumption) ?_
  k_with "call type:str" => refine Halt.at (k := "call type:str") (by assumption) ?_
  k_with "K4" => ((case zqk1 => k_asm); (case zqk2 => k_asm); (case zqk3 => k_asm); (case zqk4 => k_asm))
  k_with "K56" => ((case zqk5 => first | assumption | (with_unfolding_all assumption)); (case zqk6 => first | assumption | (with_unfolding_all assumption)))
  k_with "KN" => (k_whole; intro h' tj' n' F' N' hT' hK'; (try dsimp only); (try k_sweep))
  k_with "getAttr ref" => (k_here; (with_reducible show wpAny _ _ (getAttr (Value.ref _) (PySem.Str.ofString "free") _) _ _ _); k_dflt (refine' get_free ?zqk1 ?zqk2 ?zqk3 ?zqk4 ?_; walk_at "K4"; k_whole; intro tk' tj'; (try dsimp only)))
  k_with "getAttr ref" => (k_here; (with_reducible show wpAny _ _ (getAttr (Value.ref _) (PySem.Str.ofString "size") _) _ _ _); k_dflt (refine' get_size ?zqk1 ?zqk2 ?zqk3 ?zqk4 ?_; walk_at "K4"; k_whole; intro tk' tj'; (try dsimp only)))
  k_with "getAttr ref" => (k_here; (with_reducible show wpAny _ _ (getAttr (Value.ref _) (PySem.Str.ofString "array") _) _ _ _); k_dflt (refine' get_array ?zqk1 ?zqk2 ?zqk3 ?zqk4 ?_; walk_at "K4"; k_whole; intro tj'; (try dsimp only)))
  k_with "getAttr ref" => (k_here; (with_reducible show wpAny _ _ (getAttr (Value.ref _) (PySem.Str.ofString "nodes") _) _ _ _); k_dflt (refine' get_nodes ?zqk1 ?zqk2 ?zqk3 ?zqk4 ?_; walk_at "K4"; k_whole; intro tj'; (try dsimp only)))
  k_with "getAttr ref" => (k_here; (with_reducible show wpAny _ _ (getAttr (Value.ref _) (PySem.Str.ofString "key") _) _ _ _); k_dflt (first | (refine' get_key_none ?zqk1 ?zqk2 ?zqk3 ?zqk4 ?zqk5 ?zqk6 ?zqk7 ?_; walk_at "K4"; walk_at "K56"; (case zqk7 => assumption); k_whole; intro tj'; (try dsimp only)) | (refine' get_key_some ?zqk1 ?zqk2 ?zqk3 ?zqk4 ?zqk5 ?zqk6 ?zqk7 ?_; walk_at "K4"; walk_at "K56"; (case zqk7 => assumption); k_whole; intro kv' tj' hkv'; (try dsimp only)) | (refine' get_key_any ?zqk1 ?zqk2 ?zqk3 ?zqk4 ?zqk5 ?zqk6 ?_; walk_at "K4"; walk_at "K56"; k_whole; intro kv' tj' hkv'; (try dsimp only))))
  k_with "getAttr ref" => (k_here; (with_reducible show wpAny _ _ (getAttr (Value.ref _) (PySem.Str.ofString "value") _) _ _ _); k_dflt (refine' get_value ?zqk1 ?zqk2 ?zqk3 ?zqk4 ?zqk5 ?zqk6 ?_; walk_at "K4"; walk_at "K56"; k_whole; intro tj'; (try dsimp only)))
  k_with "getAttr ref" => (k_here; (with_reducible show wpAny _ _ (getAttr (Value.ref _) (PySem.Str.ofString "next") _) _ _ _); k_dflt (refine' get_next ?zqk1 ?zqk2 ?zqk3 ?zqk4 ?zqk5 ?zqk6 ?_; walk_at "K4"; walk_at "K56"; k_whole; intro tk' tj'; (try dsimp only)))
  k_with "setAttr ref" => (k_here; (with_reducible show wpAny _ _ (setAttr (Value.ref _) (PySem.Str.ofString "free") _) _ _ _); k_dflt (refine' set_free ?zqk1 ?zqk2 ?zqk3 ?zqk4 ?_; walk_at "K4"; walk_at "KN"))
  k_with "setAttr ref" => (k_here; (with_reducible show wpAny _ _ (setAttr (Value.ref _) (PySem.Str.ofString "size") _) _ _ _); k_dflt (refine' set_size ?zqk1 ?zqk2 ?zqk3 ?zqk4 ?_; walk_at "K4"; walk_at "KN"))
  k_with "setAttr ref" => (k_here; (with_reducible show wpAny _ _ (setAttr (Value.ref _) (PySem.Str.ofString "flags") _) _ _ _); k_dflt (refine' set_flags ?zqk1 ?zqk2 ?zqk3 ?zqk4 ?_; walk_at "K4"; walk_at "KN"))
  k_with "setAttr ref" => (k_here; (with_reducible show wpAny _ _ (setAttr (Value.ref _) (PySem.Str.ofString "log_nodes") _) _ _ _); k_dflt (refine' set_log_nodes ?zqk1 ?zqk2 ?zqk3 ?zqk4 ?_; walk_at "K4"; walk_at "KN"))
  k_with "setAttr ref" => (k_here; (with_reducible show wpAny _ _ (setAttr (Value.ref _) (PySem.Str.ofString "key") _) _ _ _); k_dflt (refine' set_key ?zqk1 ?zqk2 ?zqk3 ?zqk4 ?zqk5 ?zqk6 ?zqk7 ?_; walk_at "K4"; walk_at "K56"; (case zqk7 => first | assumption | exact KV.none); walk_at "KN"))
  k_with "setAttr ref" => (k_here; (with_reducible show wpAny _ _ (setAttr (Value.ref _) (PySem.Str.ofString "value") _) _ _ _); k_dflt (refine' set_value ?zqk1 ?zqk2 ?zqk3 ?zqk4 ?zqk5 ?zqk6 ?zqk7 ?_; walk_at "K4"; walk_at "K56"; (case zqk7 => first | assumption | rfl); walk_at "KN"))
  k_with "setAttr ref" => (k_here; (with_reducible show wpAny _ _ (setAttr (Value.ref _) (PySem.Str.ofString "next") _) _ _ _); k_dflt (refine' set_next ?zqk1 ?zqk2 ?zqk3 ?zqk4 ?zqk5 ?zqk6 ?_; walk_at "K4"; walk_at "K56"; walk_at "KN"))
  k_with "getMethod ref" => (k_here; (with_reducible show wpAny _ _ (getMethod (Value.ref _) _ _) _ _ _); k_dflt (refine' tab_meth ?zqk1 ?zqk2 ?zqk3 ?zqk4 ?zqk5 ?zqk6 ?zqk7 ?zqk8 ?_; walk_at "K4"; (case zqk5 => k_is); (case zqk6 => k_is); (case zqk7 => k_is); (case zqk8 => decide +kernel); k_whole))
  k_with "call builtin:len" => (k_here; (with_reducible show wpAny _ _ (call (Value.builtin "len") [Value.ref _]) _ _ _); k_dflt (first | (refine' len_nodes ?zqk3 ?zqk4 ?_; (case zqk3 => k_asm); (case zqk4 => k_asm); k_whole; intro tk' tj'; (try dsimp only)) | (refine' len_arr ?zqk3 ?zqk4 ?_; (case zqk3 => k_asm); (case zqk4 => k_asm); k_whole; intro tk' tj'; (try dsimp only))))
  k_with "subscriptTail" => (k_here; (with_reducible show wpAny _ _ (subscriptTail _ _ (Value.ref _) (Value.int _ _)) _ _ _); k_dflt (first | (refine' item_node ?zqk3 ?zqk4 ?zqk5 ?zqk6 ?_ ?zqk7; (case zqk3 => k_asm); (case zqk4 => k_asm); (case zqk5 => assumption); (case zqk6 => first | assumption | omega); (case zqk7 => with_unfolding_all rfl); k_whole) | (refine' item_arr ?zqk3 ?zqk4 ?zqk5 ?zqk6 ?_ ?zqk7; (case zqk3 => k_asm); (case zqk4 => k_asm); (case zqk5 => assumption); (case zqk6 => first | assumption | omega); (case zqk7 => with_unfolding_all rfl); k_whole)))
  k_with "setItem ref int" => (k_here; (with_reducible show wpAny _ _ (setItem (Value.ref _) (Value.int _ _) _) _ _ _); k_dflt (refine' set_arr ?zqk1 ?zqk3 ?zqk4 ?zqk5 ?zqk6 ?_; (case zqk1 => k_asm); (case zqk3 => k_asm); (case zqk4 => k_asm); (case zqk5 => omega); (case zqk6 => (try dsimp only); omega); k_whole; intro h' n' F' N' hT' hK'; (try dsimp only); (try k_sweep)))
  k_with "call builtin:list.append" => (k_here; (with_reducible show wpAny _ _ (call (Value.builtin _) [Value.ref _, _]) _ _ _); k_dflt (refine' app_arr ?zqk1 ?zqk3 ?zqk4 ?zqk5 ?_; (case zqk1 => k_asm); (case zqk3 => k_asm); (case zqk4 => k_asm); (case zqk5 => (try dsimp only); omega); k_whole; intro h' n' F' N' hT' hK'; (try dsimp only); (try k_sweep)))
  k_with "compareOp Is" => (k_here; (with_reducible show wpAny _ _ (compareOp CmpOp.Is _ Value.none) _ _ _); k_dflt (refine' kv_isnone ?zqk1 ?_; (case zqk1 => assumption); k_whole))
  k_with "exec For Name Name cons nil" => (k_here; (rename Fr _ _ _ _ => lF'); (with_unfolding_all refine' For_invVF lF' ?zqk1 ?zqk2 ?_; (case zqk1 => exact rfl); (case zqk2 => exact rfl); k_whole))
  k_with "exec For Name Call cons nil" => (k_here; (rename Fr _ _ _ _ => lF'); (with_unfolding_all refine' For_invVF lF' ?zqk1 ?zqk2 ?_; (case zqk1 => exact rfl); (case zqk2 => exact rfl); k_whole))
  k_with "exec For Name Attribute cons nil" => (k_here; (rename Fr _ _ _ _ => lF'); (with_unfolding_all refine' For_invVF lF' ?zqk1 ?zqk2 ?_; (case zqk1 => exact rfl); (case zqk2 => exact rfl); k_whole))
  k_with "TP" => ((first | (with_reducible show Mine.TP _ _ _ _ _ _ (Flow.ret _) _) | (with_reducible show Mine.TP _ _ _ _ _ _ Flow.brk _) | (with_reducible show Mine.TP _ _ _ _ _ _ Flow.next _) | (with_reducible show Mine.TP _ _ _ _ _ _ Flow.cont _)); (dsimp only [Mine.TP]))
  k_with "compareOp Is" => (k_here; (with_reducible show wpAny _ _ (compareOp CmpOp.Is _ Value.none) _ _ _); k_dflt (first | (refine' is_eq ?zqk1 ?_; (case zqk1 => assumption); k_whole) | (refine' is_ne ?zqk1 ?_; (case zqk1 => assumption); k_whole)))
  k_with "compareOp IsNot" => (k_here; (with_reducible show wpAny _ _ (compareOp CmpOp.IsNot _ Value.none) _ _ _); k_dflt (first | (refine' isnot_eq ?zqk1 ?_; (case zqk1 => assumption); k_whole) | (refine' isnot_ne ?zqk1 ?_; (case zqk1 => assumption); k_whole)))
  exact trivial

noncomputable def csLoop (wanted : Int) : List Int → Int → Int → Int → Int → Int × Int
  | [], _, u, z, _ => (z, u)
  | c :: r, g, u, z, p =>
    if p.fdiv 2 ≥ wanted then (z, u) else
    if c > 0 then
      if g + c > p.fdiv 2 then (if g + c = wanted then (p, g + c) else csLoop wanted r (g + c) (g + c) p (p * 2))
      else (if g + c = wanted then (z, u) else csLoop wanted r (g + c) u z (p * 2))
    else (if g = wanted then (z, u) else csLoop wanted r g u z (p * 2))
noncomputable def tupObj (vs : List Value) : Obj := { cls := .type "tuple", data := .seq vs.toArray }
noncomputable def ListAt (l : Addr) (ns : List Int) (nw : Led) : Prop := ∃ vs k, IntsAre vs ns ∧ (l, listOf vs.toArray k) ∈ nw
theorem News.sub {h₀ h : Heap} {L : Addr} {l l' : Led} (N : News h₀ L h l) (hs : ∀ p ∈ l', p ∈ l) : News h₀ L h l' := fun p hp => N p (hs p hp)
theorem sub_turn {x y : Addr × Obj} {l l' : Led} (hs : ∀ p ∈ l, p ∈ l') : ∀ p ∈ x :: l, p ∈ x :: y :: l' := fun p hp => (List.mem_cons.mp hp).elim (fun e => e ▸ .head _) fun h => .tail _ (.tail _ (hs p h))
theorem sub_done {x : Addr × Obj} {l l' : Led} (hs : ∀ p ∈ l, p ∈ l') : ∀ p ∈ x :: l, p ∈ x :: l' := fun p hp => (List.mem_cons.mp hp).elim (fun e => e ▸ .head _) fun h => .tail _ (hs p h)
theorem lt_turn {I D : Addr} {l l' : Led} (hs : ∀ p ∈ l, p ∈ l') (h : I < D ∧ AllLt D l') : ∀ p ∈ l, p.1 < D := fun p hp => tb_ltOf h.2 p (hs p hp)
set_option maxRecDepth 100000 in
set_option maxHeartbeats 8000000 in
theorem sizes_spec (w : World) (l : Addr) (ns : List Int) (wanted : Int) (tk : Tok) : Spec w 195 [.ref l, .int wanted tk] 3 (ListAt l ns)
    (fun n0 r n1 => ∃ T t1 t2, r = .ref T ∧ n1 = (T, tupObj [.int (csLoop wanted ns 0 0 0 1).1 t1, .int (csLoop wanted ns 0 0 0 1).2 t2]) :: n0 ∧ (∀ p ∈ n0, p.1 < T)) := by
  unfold Spec
  k_fill
  intro mean mg mb dp un gd cn cs a ccd cl outer A₀ base h₀ L m news s Q E B F X N TP hk hP hd hu hret
  w_top on
  w_on
  obtain ⟨vs, k, hi, hm⟩ := hP
  k_steps
  constructor
  (rename Fr _ _ _ _ => lF); (rename News _ _ _ _ => lN)
  with_unfolding_all refine' for_list (σ := (Int × Int × Int × Int) × (Tok × Tok × Tok × Tok)) (fun c => [(Str.ofString "gathered", .int c.1.1 c.2.1), (Str.ofString "used", .int c.1.2.1 c.2.2.1), (Str.ofString "size", .int c.1.2.2.1 c.2.2.2.1), (Str.ofString "power", .int c.1.2.2.2 c.2.2.2.2)]) [] (fun r c nw => (∀ p ∈ news, p ∈ nw) ∧ ∃ rs, IntsAre r rs ∧ csLoop wanted rs c.1.1 c.1.2.1 c.1.2.2.1 c.1.2.2.2 = csLoop wanted ns 0 0 0 1) ((_, _, _, _), (_, _, _, _)) rfl lF lN hm rfl rfl ?keep ?hk ?start ?turn ?done
  case keep => exact fun r c nw hR => hR.1 _ hm
  case hk => (intro p hp; simp only [List.mem_cons, List.not_mem_nil, or_false] at hp; rcases hp with rfl | rfl | rfl | rfl <;> rfl)
  case start => exact ⟨fun _ h => h, ns, hi, rfl⟩
  case turn =>
    clear lF lN
    refine all44 ?_; rintro g u z p tg tu tz tp v r uu nw I it h tk hc hI ⟨hsub, rs, hrs, he⟩ F N
    dsimp only at he
    cases hrs with
    | cons c tc hrs =>
      k_fold
      k_steps
      all_goals (dsimp only at *)
      all_goals (rw [csLoop] at he; repeat' split at he)
      all_goals first
        | (exfalso; omega)
        | (rw [← he] at hret; exact hret _ _ _ _ (by k_asm) (News.sub (by k_asm) (sub_turn hsub)) ⟨_, _, _, rfl, rfl, lt_turn hsub (by assumption)⟩)
        | (refine te_end ((_, _, _, _), (_, _, _, _)) (by assumption) (by assumption) (by kst_in) (by kst_all) (by (first | (intro z h1 h2 h3; have h4 := ne_true_of_eq_false h3; simp only [List.forall_mem_cons, List.not_mem_nil, false_implies, implies_true, and_true, ne_eq] at h2; (try simp only [List.contains_cons, List.contains_nil, Bool.or_false, Bool.or_eq_false_iff, beq_eq_false_iff_ne, ne_eq] at h3); (repeat first | with_reducible rfl | (refine Eq.trans (kstB_ne ?zqs) ?_; (case zqs => first | exact h1 | exact h2 | exact h2.1 | exact h2.2 | exact h2.2.1 | exact h2.2.2 | exact h2.2.2.1 | exact h2.2.2.2 | exact h3 | exact h3.1 | exact h3.2 | exact h3.2.1 | exact h3.2.2 | exact h4)) | (refine Eq.trans (kstB_nil _ _) ?_) | (refine Eq.trans (if_neg ?zqs) ?_; (case zqs => first | exact h1 | exact h2 | exact h2.1 | exact h2.2 | exact h2.2.1 | exact h2.2.2 | exact h2.2.2.1 | exact h2.2.2.2 | exact h3 | exact h3.1 | exact h3.2 | exact h3.2.1 | exact h3.2.2 | exact h4))); done) | (intro z h1 h2 h3; simp only [List.forall_mem_cons, List.not_mem_nil, false_implies, implies_true, and_true, ne_eq] at h2; (try simp only [List.contains_cons, List.contains_nil, Bool.or_false, Bool.or_eq_false_iff, beq_eq_false_iff_ne, ne_eq] at h3); simp +zetaDelta [kstB, h1, h2, h3]))) ⟨fun p hp => mem_offl.mpr ⟨.tail _ (hsub p hp), fun q hq => ?_⟩, _, by assumption, he⟩
           rw [List.mem_singleton.mp hq]; exact hI p (hsub p hp))
  case done =>
    clear lF lN
    refine all44 ?_; rintro g u z p tg tu tz tp uu nw h tk ⟨hsub, rs, hrs, he⟩ F N
    cases hrs
    k_steps
    dsimp only at *
    rw [csLoop] at he
    (rw [← he] at hret; exact hret _ _ _ _ (by k_asm) (News.sub (by k_asm) (sub_done hsub)) ⟨_, _, _, rfl, rfl, fun p hp => (by assumption : ∀ p ∈ nw, p.1 < _) p (hsub p hp)⟩)

end
section
theorem wd_P15_0 : True := by
  k_with_none
  exact trivial
theorem wd_P15_20 : True := by
  k_with "KD" => first | exact dlt (by assumption) (by first | decide | omega) | exact dlt1 (by assumption) (by first | decide | omega) | exact dlt0 (by assumption) | ktr_room
  k_with "KU" => first | exact ult (by assumption) (by first | decide | omega) | ktr_units
  k_with "ENTER" => (refine' enter_ ?zqk1 ?zqk2 ?zqk3 ?zqk4 ?zqk5 ?zqkA ?zqkF ?zqkK ?zqk6 ?zqk7 ?zqk8 ?zqk9 ?zqkB ?_ ?zqc2 ?zqc3 ?zqc4 ?zqc5; (case zqkA => exact rfl); (case zqkF => exact rfl); (case zqkK => first | exact rfl | assumption); (case zqk1 => k_asm); (case zqk2 => k_asm); (case zqk3 => k_asm); (case zqk4 => k_asm); (case zqk5 => k_asm); (case zqk6 => k_is); (case zqk7 => k_is); (case zqk8 => walk_at "KD"); (case zqk9 => first | exact BindsTo.of_eq rfl | exact binds_K (by k_in) rfl (by k_is) rfl rfl rfl | fail "ENTER: no rule for these arguments"); (case zqc5 => decide); (case zqkB => exact locs rfl); (case zqc2 => exact rfl); (case zqc3 => exact rfl); (case zqc4 => exact rfl); k_whole; intro g' L' h' tk' FG' mm F' N' B' X' T' qk ek)
  k_with "call ref" => (k_here; k_dflt (first | (refine' call_cls0 ?zqk1 ?zqk2 ?zqk3 ?zqk4 ?zqk5 ?_; (case zqk1 => k_asm); (case zqk2 => k_asm); (case zqk3 => k_asm); (case zqk4 => k_is); (case zqk5 => k_is); k_whole; intro x' d' h' F' N' l1 l2; (try k_lt l1); (try k_lt2 l2); (try k_sweep)) | (refine' call_cls ?zqk1 ?zqk2 ?zqk3 ?zqk4 ?zqk5 ?zqk6 ?_; (case zqk1 => k_asm); (case zqk2 => k_asm); (case zqk3 => k_asm); (case zqk4 => k_is); (case zqk5 => k_is); (case zqk6 => k_is); k_whole; intro x' d' h' F' N' l1 l2; (try k_lt l1); (try k_lt2 l2); (try k_sweep); walk_at "ENTER") | (refine' call_meth ?zqk1 ?zqk2 ?_; (case zqk1 => k_asm); (case zqk2 => k_mem); k_whole; walk_at "ENTER") | (refine wpAny_call ?_; walk_at "ENTER")))
  k_with "call builtin:len" => (k_here; (with_reducible show wpAny _ _ (call (Value.builtin "len") [Value.ref _]) _ _ _); k_dflt (refine' kst_len ?zqk1 ?zqk2 ?zqk3 ?zqk4 ?_; (case zqk1 => k_asm); (case zqk2 => k_mem); (case zqk3 => first | assumption | exact rfl); (case zqk4 => omega); k_whole))
  k_with "WhileStep2" => (first | (with_reducible show WhileStep2 _ _ _ _ _ _ (Flow.ret _) _) | (with_reducible show WhileStep2 _ _ _ _ _ _ Flow.brk _)); (dsimp only [WhileStep2])
  k_with "execs cons" => (k_here; refine wpAny_execs_cons (foldQ ?_); intro qs)
  k_with "storeName" => (k_here; (try dsimp only); k_dflt (refine' store_ ?zqF ?zqN ?_ ?zqa ?zqb; (case zqF => k_asm); (case zqN => k_asm); (case zqa => first | exact rfl | assumption); (case zqb => rfl); k_whole; intro h' tk' mm F' N'; (try k_sweep)))
  k_with "exec While Compare cons nil" => refine Halt.go ?_
  k_with "pyIter ref" => refine Halt.go ?_
  k_with "call type:enumerate" => refine Halt.go ?_
  k_with "KswEnd" => refine Halt.at (k := "KswEnd") (by assumption) ?_
  k_with "subscriptTail" => refine Halt.at (k := "subscriptTail") (by assumption) ?_
  k_with "eval ListComp" => refine Halt.at (k := "eval ListComp") (by assumption) ?_
  k_with "CompSrc" => refine Halt.at (k := "CompSrc") (by assumption) ?_
  k_with "CompEnd" => refine Halt.at (k := "CompEnd") (by assumption) ?_
  k_with "call ref" => refine Halt.at (k := "call ref") (by assumption) ?_
  k_with "call builtin:sorted" => refine Halt.at (k := "call builtin:sorted") (by assumption) ?_
  k_with "call builtin:repr" => refine Halt.at (k := "call builtin:repr") (by assumption) ?_
  k_with "unpackItems ref" => refine Halt.at (k := "unpackItems ref") (by assumption) ?_
  k_with "compareOp Eq ref ref" => refine Halt.at (k := "compareOp Eq ref ref") (by assumption) ?_
  k_with "call type:str" => refine Halt.at (k := "call type:str") (by assumption) ?_
  k_with "K4" => ((case zqk1 => k_asm); (case zqk2 => k_asm); (case zqk3 => k_asm); (case zqk4 => k_asm))
  k_with "K56" => ((case zqk5 => first | assumption | (with_unfolding_all assumption)); (case zqk6 => first | assumption | (with_unfolding_all assumption)))
  k_with "KN" => (k_whole; intro h' tj' n' F' N' hT' hK'; (try dsimp only); (try k_sweep))
  k_with "getAttr ref" => (k_here; (with_reducible show wpAny _ _ (getAttr (Value.ref _) (PySem.Str.ofString "free") _) _ _ _); k_dflt (refine' get_free ?zqk1 ?zqk2 ?zqk3 ?zqk4 ?_; walk_at "K4"; k_whole; intro tk' tj'; (try dsimp only)))
  k_with "getAttr ref" => (k_here; (with_reducible show wpAny _ _ (getAttr (Value.ref _) (PySem.Str.ofString "size") _) _ _ _); k_dflt (refine' get_size ?zqk1 ?zqk2 ?zqk3 ?zqk4 ?_; walk_at "K4"; k_whole; intro tk' tj'; (try dsimp only)))
  k_with "getAttr ref" => (k_here; (with_reducible show wpAny _ _ (getAttr (Value.ref _) (PySem.Str.ofString "array") _) _ _ _); k_dflt (refine' get_array ?zqk1 ?zqk2 ?zqk3 ?zqk4 ?_; walk_at "K4"; k_whole; intro tj'; (try dsimp only)))
  k_with "getAttr ref" => (k_here; (with_reducible show wpAny _ _ (getAttr (Value.ref _) (PySem.Str.ofString "nodes") _) _ _ _); k_dflt (refine' get_nodes ?zqk1 ?zqk2 ?zqk3 ?zqk4 ?_; walk_at "K4"; k_whole; intro tj'; (try dsimp only)))
  k_with "getAttr ref" => (k_here; (with_reducible show wpAny _ _ (getAttr (Value.ref _) (PySem.Str.ofString "key") _) _ _ _); k_dflt (first | (refine' get_key_none ?zqk1 ?zqk2 ?zqk3 ?zqk4 ?zqk5 ?zqk6 ?zqk7 ?_; walk_at "K4"; walk_at "K56"; (case zqk7 => assumption); k_whole; intro tj'; (try dsimp only)) | (refine' get_key_some ?zqk1 ?zqk2 ?zqk3 ?zqk4 ?zqk5 ?zqk6 ?zqk7 ?_; walk_at "K4"; walk_at "K56"; (case zqk7 => assumption); k_whole; intro kv' tj' hkv'; (try dsimp only)) | (refine' get_key_any ?zqk1 ?zqk2 ?zqk3 ?zqk4 ?zqk5 ?zqk6 ?_; walk_at "K4"; walk_at "K56"; k_whole; intro kv' tj' hkv'; (try dsimp only))))
  k_with "getAttr ref" => (k_here; (with_reducible show wpAny _ _ (getAttr (Value.ref _) (PySem.Str.ofString "value") _) _ _ _); k_dflt (refine' get_value ?zqk1 ?zqk2 ?zqk3 ?zqk4 ?zqk5 ?zqk6 ?_; walk_at "K4"; walk_at "K56"; k_whole; intro tj'; (try dsimp only)))
  k_with "getAttr ref" => (k_here; (with_reducible show wpAny _ _ (getAttr (Value.ref _) (PySem.Str.ofString "next") _) _ _ _); k_dflt (refine' get_next ?zqk1 ?zqk2 ?zqk3 ?zqk4 ?zqk5 ?zqk6 ?_; walk_at "K4"; walk_at "K56"; k_whole; intro tk' tj'; (try dsimp only)))
  k_with "setAttr ref" => (k_here; (with_reducible show wpAny _ _ (setAttr (Value.ref _) (PySem.Str.ofString "free") _) _ _ _); k_dflt (refine' set_free ?zqk1 ?zqk2 ?zqk3 ?zqk4 ?_; walk_at "K4"; walk_at "KN"))
  k_with "setAttr ref" => (k_here; (with_reducible show wpAny _ _ (setAttr (Value.ref _) (PySem.Str.ofString "size") _) _ _ _); k_dflt (refine' set_size ?zqk1 ?zqk2 ?zqk3 ?zqk4 ?_; walk_at "K4"; walk_at "KN"))
  k_with "setAttr ref" => (k_here; (with_reducible show wpAny _ _ (setAttr (Value.ref _) (PySem.Str.ofString "flags") _) _ _ _); k_dflt (refine' set_flags ?zqk1 ?zqk2 ?zqk3 ?zqk4 ?_; walk_at "K4"; walk_at "KN"))
  k_with "setAttr ref" => (k_here; (with_reducible show wpAny _ _ (setAttr (Value.ref _) (PySem.Str.ofString "log_nodes") _) _ _ _); k_dflt (refine' set_log_nodes ?zqk1 ?zqk2 ?zqk3 ?zqk4 ?_; walk_at "K4"; walk_at "KN"))
  k_with "setAttr ref" => (k_here; (with_reducible show wpAny _ _ (setAttr (Value.ref _) (PySem.Str.ofString "key") _) _ _ _); k_dflt (refine' set_key ?zqk1 ?zqk2 ?zqk3 ?zqk4 ?zqk5 ?zqk6 ?zqk7 ?_; walk_at "K4"; walk_at "K56"; (case zqk7 => first | assumption | exact KV.none); walk_at "KN"))
  k_with "setAttr ref" => (k_here; (with_reducible show wpAny _ _ (setAttr (Value.ref _) (PySem.Str.ofString "value") _) _ _ _); k_dflt (refine' set_value ?zqk1 ?zqk2 ?zqk3 ?zqk4 ?zqk5 ?zqk6 ?zqk7 ?_; walk_at "K4"; walk_at "K56"; (case zqk7 => first | assumption | rfl); walk_at "KN"))
  k_with "setAttr ref" => (k_here; (with_reducible show wpAny _ _ (setAttr (Value.ref _) (PySem.Str.ofString "next") _) _ _ _); k_dflt (refine' set_next ?zqk1 ?zqk2 ?zqk3 ?zqk4 ?zqk5 ?zqk6 ?_; walk_at "K4"; walk_at "K56"; walk_at "KN"))
  k_with "getMethod ref" => (k_here; (with_reducible show wpAny _ _ (getMethod (Value.ref _) _ _) _ _ _); k_dflt (refine' tab_meth ?zqk1 ?zqk2 ?zqk3 ?zqk4 ?zqk5 ?zqk6 ?zqk7 ?zqk8 ?_; walk_at "K4"; (case zqk5 => k_is); (case zqk6 => k_is); (case zqk7 => k_is); (case zqk8 => decide +kernel); k_whole))
  k_with "call builtin:len" => (k_here; (with_reducible show wpAny _ _ (call (Value.builtin "len") [Value.ref _]) _ _ _); k_dflt (first | (refine' len_nodes ?zqk3 ?zqk4 ?_; (case zqk3 => k_asm); (case zqk4 => k_asm); k_whole; intro tk' tj'; (try dsimp only)) | (refine' len_arr ?zqk3 ?zqk4 ?_; (case zqk3 => k_asm); (case zqk4 => k_asm); k_whole; intro tk' tj'; (try dsimp only))))
  k_with "subscriptTail" => (k_here; (with_reducible show wpAny _ _ (subscriptTail _ _ (Value.ref _) (Value.int _ _)) _ _ _); k_dflt (first | (refine' item_node ?zqk3 ?zqk4 ?zqk5 ?zqk6 ?_ ?zqk7; (case zqk3 => k_asm); (case zqk4 => k_asm); (case zqk5 => assumption); (case zqk6 => first | assumption | omega); (case zqk7 => with_unfolding_all rfl); k_whole) | (refine' item_arr ?zqk3 ?zqk4 ?zqk5 ?zqk6 ?_ ?zqk7; (case zqk3 => k_asm); (case zqk4 => k_asm); (case zqk5 => assumption); (case zqk6 => first | assumption | omega); (case zqk7 => with_unfolding_all rfl); k_whole)))
  k_with "setItem ref int" => (k_here; (with_reducible show wpAny _ _ (setItem (Value.ref _) (Value.int _ _) _) _ _ _); k_dflt (refine' set_arr ?zqk1 ?zqk3 ?zqk4 ?zqk5 ?zqk6 ?_; (case zqk1 => k_asm); (case zqk3 => k_asm); (case zqk4 => k_asm); (case zqk5 => omega); (case zqk6 => (try dsimp only); omega); k_whole; intro h' n' F' N' hT' hK'; (try dsimp only); (try k_sweep)))
  k_with "call builtin:list.append" => (k_here; (with_reducible show wpAny _ _ (call (Value.builtin _) [Value.ref _, _]) _ _ _); k_dflt (refine' app_arr ?zqk1 ?zqk3 ?zqk4 ?zqk5 ?_; (case zqk1 => k_asm); (case zqk3 => k_asm); (case zqk4 => k_asm); (case zqk5 => (try dsimp only); omega); k_whole; intro h' n' F' N' hT' hK'; (try dsimp only); (try k_sweep)))
  k_with "compareOp Is" => (k_here; (with_reducible show wpAny _ _ (compareOp CmpOp.Is _ Value.none) _ _ _); k_dflt (refine' kv_isnone ?zqk1 ?_; (case zqk1 => assumption); k_whole))
  k_with "exec For Name Name cons nil" => (k_here; (rename Fr _ _ _ _ => lF'); (with_unfolding_all refine' For_invVF lF' ?zqk1 ?zqk2 ?_; (case zqk1 => exact rfl); (case zqk2 => exact rfl); k_whole))
  k_with "exec For Name Call cons nil" => (k_here; (rename Fr _ _ _ _ => lF'); (with_unfolding_all refine' For_invVF lF' ?zqk1 ?zqk2 ?_; (case zqk1 => exact rfl); (case zqk2 => exact rfl); k_whole))
  k_with "exec For Name Attribute cons nil" => (k_here; (rename Fr _ _ _ _ => lF'); (with_unfolding_all refine' For_invVF lF' ?zqk1 ?zqk2 ?_; (case zqk1 => exact rfl); (case zqk2 => exact rfl); k_whole))
  k_with "TP" => ((first | (with_reducible show Mine.TP _ _ _ _ _ _ (Flow.ret _) _) | (with_reducible show Mine.TP _ _ _ _ _ _ Flow.brk _) | (with_reducible show Mine.TP _ _ _ _ _ _ Flow.next _) | (with_reducible show Mine.TP _ _ _ _ _ _ Flow.cont _)); (dsimp only [Mine.TP]))
  k_with "compareOp Is" => (k_here; (with_reducible show wpAny _ _ (compareOp CmpOp.Is _ Value.none) _ _ _); k_dflt (first | (refine' is_eq ?zqk1 ?_; (case zqk1 => assumption); k_whole) | (refine' is_ne ?zqk1 ?_; (case zqk1 => assumption); k_whole)))
  k_with "compareOp IsNot" => (k_here; (with_reducible show wpAny _ _ (compareOp CmpOp.IsNot _ Value.none) _ _ _); k_dflt (first | (refine' isnot_eq ?zqk1 ?_; (case zqk1 => assumption); k_whole) | (refine' isnot_ne ?zqk1 ?_; (case zqk1 => assumption); k_whole)))
  exact trivial

section
variable {w : World} {A : Around} {E : Value → Shared → Prop} {s : Shared} {h₀ : Heap} {L l : Addr} {m : Str → Option Value} {news : Led} {ns : List Int} {k : Int} {u : Tok}
theorem get_cnt {Q : Value → Shared → Prop} (N : News h₀ L s.heap news) (hC : ListAt l ns news) (h0 : 0 ≤ k) (h1 : k < ns.length) (hf : k < 2 ^ 63) (h : ∀ t, Q (.int (ns.getD k.toNat 0) t) s) :
    wpAny (model PySem.Challenge.rw_pq0681_01.row.prog w) A (getItem (.ref l) (.int k u)) Q E s := by
  obtain ⟨vs, c, hi, hm⟩ := hC
  exact ksa_get N hm hi h0 h1 hf h
theorem sub_cnt {value slice : PySem.Expr} {Q : Value → Shared → Prop} (N : News h₀ L s.heap news) (hC : ListAt l ns news) (h0 : 0 ≤ k) (h1 : k < ns.length) (hf : k < 2 ^ 63) (h : ∀ t, Q (.int (ns.getD k.toNat 0) t) s)
    (hs : subscripted slice false (.ref l) (.int k u) = operate [.ref l, .int k u] (getItem (.ref l) (.int k u)) := by with_unfolding_all rfl) :
    wpAny (model PySem.Challenge.rw_pq0681_01.row.prog w) A (subscriptTail value slice (.ref l) (.int k u)) Q E s := by
  obtain ⟨vs, c, hi, hm⟩ := hC
  exact ksa_sub N hm hi h0 h1 hf h hs
noncomputable def KeepBut (l : Addr) (n n' : Led) : Prop := ∀ p ∈ n, p.1 ≠ l → p ∈ n'
theorem set_cnt {x : Int} {t : Tok} {Q : Unit → Shared → Prop} (F : Fr h₀ L s.heap m) (N : News h₀ L s.heap news) (hC : ListAt l ns news) (h0 : 0 ≤ k) (h1 : k < ns.length) (hf : k < 2 ^ 63)
    (h : ∀ h' n', Fr h₀ L h' m → News h₀ L h' n' → ListAt l (ns.set k.toNat x) n' → KeepBut l news n' → Q () { s with heap := h' }) :
    wpAny (model PySem.Challenge.rw_pq0681_01.row.prog w) A (setItem (.ref l) (.int k u) (.int x t)) Q E s := by
  obtain ⟨vs, c, hi, hm⟩ := hC
  exact setAtP F N hm h0 (by rw [hi.length]; exact h1) hf fun h' F' N' => h _ _ F' N' ⟨_, _, ints_set hi _, put_self⟩ fun p hp hn => put_ne hp hn
end
theorem wd_P15_21 : True := by
  k_with "getItem ref int" => (k_here; (with_reducible show wpAny _ _ (getItem (Value.ref _) (Value.int _ _)) _ _ _); k_dflt (refine' get_cnt ?zqk3 ?zqk4 ?zqk5 ?zqk6 ?zqk7 ?_; (case zqk3 => k_asm); (case zqk4 => k_asm); (case zqk5 => omega); (case zqk6 => omega); (case zqk7 => omega); k_whole; intro tk'))
  k_with "subscriptTail" => (k_here; (with_reducible show wpAny _ _ (subscriptTail _ _ (Value.ref _) (Value.int _ _)) _ _ _); k_dflt (refine' sub_cnt ?zqk3 ?zqk4 ?zqk5 ?zqk6 ?zqk7 ?_ ?zqk8; (case zqk3 => k_asm); (case zqk4 => k_asm); (case zqk5 => omega); (case zqk6 => omega); (case zqk7 => omega); (case zqk8 => with_unfolding_all rfl); k_whole; intro tk'))
  k_with "setItem ref int" => (k_here; (with_reducible show wpAny _ _ (setItem (Value.ref _) (Value.int _ _) (Value.int _ _)) _ _ _); k_dflt (refine' set_cnt ?zqk1 ?zqk3 ?zqk4 ?zqk5 ?zqk6 ?zqk7 ?_; (case zqk1 => k_asm); (case zqk3 => k_asm); (case zqk4 => k_asm); (case zqk5 => omega); (case zqk6 => omega); (case zqk7 => omega); k_whole; intro h' n' F' N' hC' hK'; (try dsimp only); (try k_sweep)))
  exact trivial

noncomputable def cIx (k : PKey) : Nat := (log2P ((arrIx k) - 1).toNat + 1).toNat
abbrev inCnt (k : PKey) : Prop := 0 < arrIx k ∧ arrIx k ≤ 67108864
noncomputable def countKey (k : PKey) (ns : List Int) : Int × List Int := if inCnt k then (1, ns.set (cIx k) (ns.getD (cIx k) 0 + 1)) else (0, ns)
theorem cIx_lt {k : PKey} (h : inCnt k) : 0 ≤ log2P ((arrIx k) - 1).toNat + 1 ∧ log2P ((arrIx k) - 1).toNat + 1 < 27 := by
  obtain ⟨h1, h2⟩ := h
  unfold log2P
  split
  · omega
  · have : Nat.log2 (arrIx k - 1).toNat < 26 := (Nat.log2_lt (by assumption)).mpr (by omega)
    omega
theorem wd_P15_22 : True := by
  k_with "call ref" => (k_here; k_dflt ((refine' Spec.useI (arrix_spec _ (by assumption)) ?zqk1 ?zqk2 ?zqk3 ?zqk4 ?zqk5 ?zqkK ?zqkP ?zqkd ?zqku ?_; (case zqk1 => k_asm); (case zqk2 => k_asm); (case zqk3 => k_asm); (case zqk4 => k_asm); (case zqk5 => k_asm); (case zqkK => first | exact rfl | assumption); (case zqkP => trivial); (case zqkd => walk_at "KD"); (case zqku => walk_at "KU"); k_whole; intro t1 h' tk' F' N'); (try dsimp only); (try k_sweep)))
  k_with "call ref" => (k_here; k_dflt ((refine' Spec.useI (ceil_log2_spec _ _ _ (by omega) (by omega)) ?zqk1 ?zqk2 ?zqk3 ?zqk4 ?zqk5 ?zqkK ?zqkP ?zqkd ?zqku ?_; (case zqk1 => k_asm); (case zqk2 => k_asm); (case zqk3 => k_asm); (case zqk4 => k_asm); (case zqk5 => k_asm); (case zqkK => first | exact rfl | assumption); (case zqkP => trivial); (case zqkd => walk_at "KD"); (case zqku => walk_at "KU"); k_whole; intro t1 h' tk' F' N'); (try dsimp only); (try k_sweep)))
  exact trivial
set_option maxRecDepth 100000 in
set_option maxHeartbeats 8000000 in
theorem countkey_spec (w : World) {kv : Value} {k : PKey} (l : Addr) (ns : List Int) (hkv : KV kv (some k)) (hlen : ns.length = 27) : Spec w 202 [kv, .ref l] 10 (ListAt l ns)
    (fun n0 r n1 => (∃ t, r = .int (countKey k ns).1 t) ∧ ListAt l (countKey k ns).2 n1 ∧ KeepBut l n0 n1) := by
  unfold Spec
  k_fill
  intro mean mg mb dp un gd cn cs a ccd cl outer A₀ base h₀ L m news s Q E B F X N TP hk hP hd hu hret
  w_top on
  w_on
  by_cases hc : inCnt k
  · have hx := cIx_lt hc
    have hc' := hc
    obtain ⟨hc1, hc2⟩ := hc'
    k_steps
    rw [countKey, if_pos hc] at hret
    exact hret _ _ _ _ (by k_asm) (by k_asm) ⟨⟨_, rfl⟩, by assumption, by assumption⟩
  · k_steps
    all_goals first
      | exact absurd ⟨by assumption, by assumption⟩ hc
      | (rw [countKey, if_neg hc] at hret
         exact hret _ _ _ _ (by k_asm) (by k_asm) ⟨⟨_, rfl⟩, by assumption, fun p hp _ => hp⟩)
/-- the nodes that hold something, counted -/
noncomputable def cnLoop : List PNode → Int → Int → List Int → Option (Int × Int × List Int)
  | [], t, wh, ns => some (t, wh, ns)
  | x :: r, t, wh, ns => if x.val = .none then cnLoop r t wh ns else match x.key with
    | none => none
    | some k => cnLoop r (t + 1) (wh + (countKey k ns).1) (countKey k ns).2
theorem countKey_len (k : PKey) (ns : List Int) : (countKey k ns).2.length = ns.length := by
  unfold countKey; split <;> simp
theorem ListAt.ne {h₀ h : Heap} {L l a : Addr} {ns : List Int} {nw : Led} (N : News h₀ L h nw) (hC : ListAt l ns nw) {o : Obj} (ho : (a, o) ∈ nw) (hc : ∀ vs n, o ≠ listOf vs n) : a ≠ l := by
  obtain ⟨vs, k, _, hm⟩ := hC
  rintro rfl
  exact hc _ _ (News.fn N ho hm)
theorem inst_list {C d : Addr} : ∀ vs n, instObj C d ≠ listOf vs n := fun vs n e => by cases congrArg Obj.data e
theorem dict_list {es : List DictEntry} {k : Nat} : ∀ vs n, dictOf es k ≠ listOf vs n := fun vs n e => by cases congrArg Obj.data e
theorem TabIn.mono {t : Addr} {nw nw' : Led} {Y : Lay} {T : Tab} (hT : TabIn nw t Y T) (hs : ∀ p ∈ nw, p ∈ nw') : TabIn nw' t Y T := by
  obtain ⟨hi, ⟨o, ho, hd⟩, ⟨ca, ha⟩, ⟨cn, hn⟩, hl, hnode, hdis, haln, g1, g2⟩ := hT
  refine ⟨hs _ hi, ⟨o, ho, hs _ hd⟩, ⟨ca, hs _ ha⟩, ⟨cn, hs _ hn⟩, hl, fun i p x hp hx => ?_, hdis, haln, g1, g2⟩
  obtain ⟨hin, hv, kv, o2, k1, k2, k3⟩ := hnode i p x hp hx
  exact ⟨hs _ hin, hv, kv, o2, k1, k2, hs _ k3⟩
theorem TabIn.but {h₀ h : Heap} {L l t : Addr} {ns : List Int} {nw nw' : Led} {Y : Lay} {T : Tab} (N : News h₀ L h nw) (hT : TabIn nw t Y T) (hC : ListAt l ns nw) (hK : KeepBut l nw nw') (h1 : Y.al ≠ l) (h2 : Y.nl ≠ l) : TabIn nw' t Y T := by
  obtain ⟨hi, ⟨o, ho, hd⟩, ⟨ca, ha⟩, ⟨cn, hn⟩, hl, hnode, hdis, haln, g1, g2⟩ := hT
  refine ⟨hK _ hi (hC.ne N hi inst_list), ⟨o, ho, hK _ hd (hC.ne N hd (by cases ho; exact dict_list))⟩, ⟨ca, hK _ ha h1⟩, ⟨cn, hK _ hn h2⟩, hl, fun i p x hp hx => ?_, hdis, haln, g1, g2⟩
  obtain ⟨hin, hv, kv, o2, k1, k2, k3⟩ := hnode i p x hp hx
  exact ⟨hK _ hin (hC.ne N hin inst_list), hv, kv, o2, k1, k2, hK _ k3 (hC.ne N k3 (by cases k2; exact dict_list))⟩
theorem ListAt.mono {l : Addr} {ns : List Int} {nw nw' : Led} (h : ListAt l ns nw) (hs : ∀ p ∈ nw, p.1 = l → p ∈ nw') : ListAt l ns nw' := by
  obtain ⟨vs, k, hi, hm⟩ := h; exact ⟨vs, k, hi, hs _ hm rfl⟩
theorem ListAt.offl {h₀ h : Heap} {L l : Addr} {ns : List Int} {its n : Led} (N : News h₀ L h n) (sub : ∀ q ∈ its, q ∈ n) (hI : IterLed its) (hC : ListAt l ns n) : ListAt l ns (Mine.offl its n) := by
  obtain ⟨vs, k, hi, hm⟩ := hC; exact ⟨vs, k, hi, offl_mem N sub hI hm iter_list⟩
theorem iterLed1 {I : Addr} {it : Obj} {c : String} (h : it.cls = .type c) (hc : c ∈ iterCls) : IterLed [(I, it)] := fun q hq => by rw [List.mem_singleton.mp hq]; exact ⟨c, hc, h⟩
theorem nodes_drop {T : Tab} {Y : Lay} {i : Nat} {v : Value} {r : List Value} (hl : Y.ns.length = T.nodes.length) (e : v :: r = (Y.ns.drop i).map fun p => Value.ref p.1) :
    ∃ p x, Y.ns[i]? = some p ∧ T.nodes[i]? = some x ∧ v = .ref p.1 ∧ r = (Y.ns.drop (i + 1)).map (fun p => Value.ref p.1) ∧ T.nodes.drop i = x :: T.nodes.drop (i + 1) := by
  have hlt : i < Y.ns.length := by
    by_cases h : i < Y.ns.length
    · exact h
    · rw [List.drop_eq_nil_of_le (by omega)] at e; cases e
  rw [List.drop_eq_getElem_cons hlt, List.map_cons] at e
  obtain ⟨e1, e2⟩ := List.cons.inj e
  exact ⟨_, _, List.getElem?_eq_getElem hlt, List.getElem?_eq_getElem (by omega), e1, e2, List.drop_eq_getElem_cons (by omega)⟩
theorem wd_P15_23 : True := by
  k_with "call ref" => (k_here; k_dflt ((refine' Spec.useK (countkey_spec _ _ _ (by assumption) (by assumption)) ?zqk1 ?zqk2 ?zqk3 ?zqk4 ?zqk5 ?zqkK ?zqkP ?zqkd ?zqku ?zqC ?_; (case zqk1 => k_asm); (case zqk2 => k_asm); (case zqk3 => k_asm); (case zqk4 => k_asm); (case zqk5 => k_asm); (case zqkK => first | exact rfl | assumption); (case zqkP => assumption); (case zqkd => walk_at "KD"); (case zqku => walk_at "KU"); (case zqC => (intro G c r' n' R'; obtain ⟨⟨t1, e1⟩, hC', hK'⟩ := R'; subst e1; revert n' t1 hC' hK'; exact c)); k_whole; intro n' t1 hC' hK' h' tk' F' N'); (try dsimp only); (try k_sweep)))
  exact trivial
set_option maxRecDepth 100000 in
set_option maxHeartbeats 8000000 in
theorem countnodes_spec (w : World) (t l : Addr) (Y : Lay) (T : Tab) (ns ns' : List Int) (tot wh : Int) (hlen : ns.length = 27) (hr : cnLoop T.nodes 0 0 ns = some (tot, wh, ns')) (hl : Y.al ≠ l) (hl2 : Y.nl ≠ l) : Spec w 315 [.ref t, .ref l] 14 (fun nw => TabIn nw t Y T ∧ ListAt l ns nw)
    (fun n0 r n1 => TabIn n1 t Y T ∧ ListAt l ns' n1 ∧ KeepBut l n0 n1 ∧ ∃ P t1 t2, r = .ref P ∧ (P, tupObj [.int tot t1, .int wh t2]) ∈ n1 ∧ ∀ p ∈ n0, p.1 ≠ P) := by
  unfold Spec
  k_fill
  intro mean mg mb dp un gd cn cs a ccd cl outer A₀ base h₀ L m news s Q E B F X N TP hk hP hd hu hret
  w_top on
  w_on
  obtain ⟨hT, hC⟩ := hP
  k_steps
  constructor
  (rename Fr _ _ _ _ => lF); (rename News _ _ _ _ => lN)
  obtain ⟨cn1, hnl⟩ := hT.nds
  with_unfolding_all refine' for_list (σ := (Int × Int × List Int) × (Tok × Tok)) (fun c => [(Str.ofString "total", .int c.1.1 c.2.1), (Str.ofString "whole", .int c.1.2.1 c.2.2)]) [] (fun r c nw => TabIn nw t Y T ∧ ListAt l c.1.2.2 nw ∧ KeepBut l news nw ∧ c.1.2.2.length = 27 ∧ ∃ i, r = (Y.ns.drop i).map (fun p => Value.ref p.1) ∧ cnLoop (T.nodes.drop i) c.1.1 c.1.2.1 c.1.2.2 = some (tot, wh, ns')) ((_, _, ns), (_, _)) rfl lF lN hnl rfl rfl ?keep ?hk ?start ?turn ?done
  case keep => exact fun r c nw hR => hR.2.2.1 _ hnl hl2
  case hk => (intro p hp; simp only [List.mem_cons, List.not_mem_nil, or_false] at hp; rcases hp with rfl | rfl <;> rfl)
  case start => exact ⟨hT, hC, fun p hp _ => hp, hlen, 0, rfl, hr⟩
  case turn =>
    clear lF lN hT hC
    refine all32 ?_; rintro g u z tg tu v r uu nw I it h tk hcl hI ⟨hT, hC, hK, hlen, i, hri, hcn⟩ F N
    dsimp only at hcn hlen hC
    obtain ⟨p, x, hp, hx, rfl, rfl, hd⟩ := nodes_drop hT.len hri
    rw [hd, cnLoop] at hcn
    have hT2 : TabIn ((I, it) :: nw) t Y T := hT.mono fun p hp => .tail _ hp
    have hC2 : ListAt l z ((I, it) :: nw) := hC.mono fun p hp _ => .tail _ hp
    clear hri hd
    by_cases hxv : x.val = .none
    · rw [if_pos hxv] at hcn
      (try k_fold)
      k_steps
      refine te_end ((_, _, z), (_, _)) (by assumption) (by assumption) (by kst_in) (by kst_all) (by (first | (intro z h1 h2 h3; have h4 := ne_true_of_eq_false h3; simp only [List.forall_mem_cons, List.not_mem_nil, false_implies, implies_true, and_true, ne_eq] at h2; (try simp only [List.contains_cons, List.contains_nil, Bool.or_false, Bool.or_eq_false_iff, beq_eq_false_iff_ne, ne_eq] at h3); (repeat first | with_reducible rfl | (refine Eq.trans (kstB_ne ?zqs) ?_; (case zqs => first | exact h1 | exact h2 | exact h2.1 | exact h2.2 | exact h2.2.1 | exact h2.2.2 | exact h2.2.2.1 | exact h2.2.2.2 | exact h3 | exact h3.1 | exact h3.2 | exact h3.2.1 | exact h3.2.2 | exact h4)) | (refine Eq.trans (kstB_nil _ _) ?_) | (refine Eq.trans (if_neg ?zqs) ?_; (case zqs => first | exact h1 | exact h2 | exact h2.1 | exact h2.2 | exact h2.2.1 | exact h2.2.2 | exact h2.2.2.1 | exact h2.2.2.2 | exact h3 | exact h3.1 | exact h3.2 | exact h3.2.1 | exact h3.2.2 | exact h4))); done) | (intro z h1 h2 h3; simp only [List.forall_mem_cons, List.not_mem_nil, false_implies, implies_true, and_true, ne_eq] at h2; (try simp only [List.contains_cons, List.contains_nil, Bool.or_false, Bool.or_eq_false_iff, beq_eq_false_iff_ne, ne_eq] at h3); simp +zetaDelta [kstB, h1, h2, h3]))) ⟨hT2.offl (by k_asm) (by kst_in) (iterLed1 hcl (by decide)), hC2.offl (by k_asm) (by kst_in) (iterLed1 hcl (by decide)), fun p hp hn => mem_offl.mpr ⟨.tail _ (hK p hp hn), fun q hq => ?_⟩, hlen, i + 1, rfl, hcn⟩
      rw [List.mem_singleton.mp hq]; exact hI p (hK p hp hn)
    · rw [if_neg hxv] at hcn
      cases hxk : x.key with
      | none => rw [hxk] at hcn; cases hcn
      | some k =>
        rw [hxk] at hcn
        dsimp only at hcn
        (try k_fold)
        k_steps
        (rename KeepBut _ _ _ => hK2)
        (rename ListAt _ _ _ => hC3)
        (rename News _ _ _ _ => N3)
        have hIl : I ≠ l := hC2.ne N (.head _) fun vs n e => by rw [e] at hcl; simp at hcl
        refine te_end ((g + 1, u + (countKey k z).1, (countKey k z).2), (_, _)) (by assumption) N3 (fun q hq => by rw [List.mem_singleton.mp hq]; exact hK2 _ (.head _) hIl) (by kst_all) (by (first | (intro z h1 h2 h3; have h4 := ne_true_of_eq_false h3; simp only [List.forall_mem_cons, List.not_mem_nil, false_implies, implies_true, and_true, ne_eq] at h2; (try simp only [List.contains_cons, List.contains_nil, Bool.or_false, Bool.or_eq_false_iff, beq_eq_false_iff_ne, ne_eq] at h3); (repeat first | with_reducible rfl | (refine Eq.trans (kstB_ne ?zqs) ?_; (case zqs => first | exact h1 | exact h2 | exact h2.1 | exact h2.2 | exact h2.2.1 | exact h2.2.2 | exact h2.2.2.1 | exact h2.2.2.2 | exact h3 | exact h3.1 | exact h3.2 | exact h3.2.1 | exact h3.2.2 | exact h4)) | (refine Eq.trans (kstB_nil _ _) ?_) | (refine Eq.trans (if_neg ?zqs) ?_; (case zqs => first | exact h1 | exact h2 | exact h2.1 | exact h2.2 | exact h2.2.1 | exact h2.2.2 | exact h2.2.2.1 | exact h2.2.2.2 | exact h3 | exact h3.1 | exact h3.2 | exact h3.2.1 | exact h3.2.2 | exact h4))); done) | (intro z h1 h2 h3; simp only [List.forall_mem_cons, List.not_mem_nil, false_implies, implies_true, and_true, ne_eq] at h2; (try simp only [List.contains_cons, List.contains_nil, Bool.or_false, Bool.or_eq_false_iff, beq_eq_false_iff_ne, ne_eq] at h3); simp +zetaDelta [kstB, h1, h2, h3]))) ⟨(hT2.but N hC2 hK2 hl hl2).offl N3 (fun q hq => by rw [List.mem_singleton.mp hq]; exact hK2 _ (.head _) hIl) (iterLed1 hcl (by decide)), hC3.offl N3 (fun q hq => by rw [List.mem_singleton.mp hq]; exact hK2 _ (.head _) hIl) (iterLed1 hcl (by decide)), fun p hp hn => mem_offl.mpr ⟨hK2 _ (.tail _ (hK p hp hn)) hn, fun q hq => ?_⟩, by rw [countKey_len]; exact hlen, i + 1, rfl, hcn⟩
        rw [List.mem_singleton.mp hq]; exact hI p (hK p hp hn)
  case done =>
    clear lF lN hT hC
    refine all32 ?_; rintro g u z tg tu uu nw h tk ⟨hT, hC, hK, hlen, i, hri, hcn⟩ F N
    have e9 : Y.ns.drop i = [] := List.map_eq_nil_iff.mp hri.symm
    have e8 : T.nodes.drop i = [] := List.drop_eq_nil_of_le (by have := List.drop_eq_nil_iff.mp e9; have := hT.len; omega)
    rw [e8, cnLoop] at hcn
    obtain ⟨e1, e2⟩ := Prod.mk.inj (Option.some.inj hcn)
    obtain ⟨e2, e3⟩ := Prod.mk.inj e2
    dsimp only at e1 e2 e3 hC
    subst e1; subst e2; subst e3
    k_steps
    refine hret _ _ _ _ (by k_asm) (by k_asm) ⟨hT.mono fun p hp => .tail _ hp, hC.mono fun p hp _ => .tail _ hp, fun p hp hn => .tail _ (hK p hp hn), _, _, _, rfl, .head _, fun p hp => ?_⟩
    by_cases e : p.1 = l
    · obtain ⟨vs, kk, _, hm⟩ := hC
      rw [e]; exact Nat.ne_of_lt ((by assumption : ∀ q ∈ nw, q.1 < _) _ hm)
    · exact Nat.ne_of_lt ((by assumption : ∀ q ∈ nw, q.1 < _) _ (hK p hp e))

end
section
/-! the plain tables: what the program computes, without addresses and tokens -/
noncomputable def cntP : List Value → Int
  | [] => 0
  | v :: r => (if v = .none then 0 else 1) + cntP r
noncomputable def caLoop (arr : List Value) : Nat → Nat → Nat → Nat → Int → List Int → Int × List Int
  | 0, _, _, _, t, ns => (t, ns)
  | n + 1, st, a, lim, t, ns =>
    if min lim arr.length ≤ a then (t, ns) else
    caLoop arr n (st + 1) (min lim arr.length) (lim * 2) (t + cntP ((arr.drop a).take (min lim arr.length - a))) (ns.set st (ns.getD st 0 + cntP ((arr.drop a).take (min lim arr.length - a))))
noncomputable def fresh : PNode := ⟨none, .none, -1⟩
noncomputable def nodeCnt (h : Int) : Nat := if 0 < h then 2 ^ (log2P (h - 1).toNat + 1).toNat else 0
noncomputable def mkNodes (T : Tab) (h : Int) : Tab := { T with nodes := List.replicate (nodeCnt h) fresh, free := (nodeCnt h : Int) }
abbrev NK := Tab → PKey → Value → Option Tab
noncomputable def putBackW (nk : NK) (T : Tab) (k : PKey) (v : Value) : Option Tab :=
  if 1 ≤ arrIx k ∧ arrIx k ≤ (T.arr.length : Int) then some { T with arr := T.arr.set (arrIx k - 1).toNat v } else nk T k v
noncomputable def vanW (nk : NK) : List Value → Int → Tab → Option Tab
  | [], _, T => some T
  | v :: r, i, T => if v = .none then vanW nk r (i + 1) T else if handedIn v = false then none else (putBackW nk T (.int i) v).bind (vanW nk r (i + 1))
noncomputable def keyOkB : PKey → Bool
  | .int _ => true
  | .bts b => b.length == 2
theorem keyOk_of {k : PKey} (h : keyOkB k = true) : KeyOk k := by
  cases k with
  | int i => trivial
  | bts b => exact beq_iff_eq.mp h
theorem keyOkB_of {k : PKey} (h : KeyOk k) : keyOkB k = true := by
  cases k with
  | int i => rfl
  | bts b => exact beq_iff_eq.mpr h
noncomputable def oldW (nk : NK) : List PNode → Tab → Option Tab
  | [], T => some T
  | x :: r, T => if x.val = .none then oldW nk r T else match x.key with
    | none => none
    | some k => if keyOkB k = false then none else (putBackW nk T k x.val).bind (oldW nk r)
noncomputable def cutArr (T : Tab) (a : Int) : Tab := { T with arr := T.arr.take a.toNat ++ List.replicate (a.toNat - T.arr.length) .none }
noncomputable def resizeW (nk : NK) (T : Tab) (a h : Int) : Option Tab :=
  if 0 ≤ a ∧ a ≤ 4194304 ∧ h ≤ 1048576 then
    ((vanW nk (T.arr.drop a.toNat) (a + 1) (mkNodes (cutArr T a) h)).bind (oldW nk T.nodes.reverse)).map weighT
  else none
noncomputable def rehashW (nk : NK) (T : Tab) (k : PKey) : Option Tab :=
  (cnLoop T.nodes 0 0 (caLoop T.arr 27 0 0 1 0 (List.replicate 27 0)).2).bind fun q =>
    resizeW nk T (csLoop ((caLoop T.arr 27 0 0 1 0 (List.replicate 27 0)).1 + (q.2.1 + (countKey k q.2.2).1)) (countKey k q.2.2).2 0 0 0 1).1
      ((caLoop T.arr 27 0 0 1 0 (List.replicate 27 0)).1 + (q.1 + 1) - (csLoop ((caLoop T.arr 27 0 0 1 0 (List.replicate 27 0)).1 + (q.2.1 + (countKey k q.2.2).1)) (countKey k q.2.2).2 0 0 0 1).2)
noncomputable def updN (T : Tab) (i : Int) (f : PNode → PNode) : Option Tab :=
  if i < 0 then none else (T.nodes[i.toNat]?).map fun x => { T with nodes := T.nodes.set i.toNat (f x) }
noncomputable def prevF (ns : List PNode) (main : Int) : Nat → Int → Option Int
  | 0, _ => none
  | f + 1, o => if o < 0 then none else match ns[o.toNat]? with
    | none => none
    | some x => if x.next = main then some o else prevF ns main f x.next
noncomputable def newKeyW (nk : NK) : NK := fun T k v =>
  if T.nodes.length = 0 then (rehashW nk T k).bind fun T1 => putBackW nk T1 k v
  else (T.nodes[(mainP T.nodes.length k).toNat]?).bind fun place =>
    if place.val = .none then some { T with nodes := T.nodes.set (mainP T.nodes.length k).toNat ⟨some k, v, place.next⟩ }
    else if T.free < 0 ∨ (T.nodes.length : Int) < T.free then none
    else if (freePos T.nodes T.free.toNat).1 < 0 then
      (rehashW nk { T with free := ((freePos T.nodes T.free.toNat).2 : Int) } k).bind fun T1 => putBackW nk T1 k v
    else place.key.bind fun pk => if keyOkB pk = false then none else if (freePos T.nodes T.free.toNat).1 = mainP T.nodes.length k then none else
      if mainP T.nodes.length pk = mainP T.nodes.length k then
        some { T with nodes := (T.nodes.set (mainP T.nodes.length k).toNat { place with next := (freePos T.nodes T.free.toNat).1 }).set (freePos T.nodes T.free.toNat).1.toNat ⟨some k, v, place.next⟩, free := ((freePos T.nodes T.free.toNat).2 : Int) }
      else (prevF T.nodes (mainP T.nodes.length k) (T.nodes.length + 1) (mainP T.nodes.length pk)).bind fun j => if j < 0 ∨ j = mainP T.nodes.length k then none else
        (T.nodes[j.toNat]?).bind fun xj =>
        some { T with nodes := ((T.nodes.set j.toNat { xj with next := (freePos T.nodes T.free.toNat).1 }).set (freePos T.nodes T.free.toNat).1.toNat place).set (mainP T.nodes.length k).toNat ⟨some k, v, -1⟩, free := ((freePos T.nodes T.free.toNat).2 : Int) }
noncomputable def newKey : Nat → NK
  | 0 => fun _ _ _ => none
  | n + 1 => newKeyW (newKey n)
noncomputable def FU : Nat := 2
noncomputable def setT (T : Tab) (k : PKey) (v : Value) : Option Tab :=
  if 1 ≤ arrIx k ∧ arrIx k ≤ (T.arr.length : Int) then some { T with arr := T.arr.set (arrIx k - 1).toNat v }
  else (findP T k).bind fun at1 =>
    if at1 < 0 then newKey FU T k v else updN T at1 fun x => { x with val := v }
noncomputable def emptyT : Tab := ⟨[], [], 0, 56⟩

end
section
theorem mainP_bound {n : Nat} (hn : 0 < n) (k : PKey) : 0 ≤ mainP n k ∧ mainP n k < n := by
  cases k with
  | int i =>
    have e : Builtin.bitOr ((n : Int) - 1) 1 = (n : Int) - ((n : Int) - 1) % 2 := by rw [bitOr_and, bitAnd_m1]; omega
    have hp : 0 < Builtin.bitOr ((n : Int) - 1) 1 := by rw [e]; omega
    have h1 := Int.fmod_nonneg_of_pos i hp
    have h2 := Int.fmod_lt_of_pos i hp
    show 0 ≤ i.fmod _ ∧ i.fmod _ < _
    omega
  | bts b =>
    have := bitAnd_le (x := hashB b) (y := (n : Int) - 1) (by omega)
    show 0 ≤ Builtin.bitAnd _ _ ∧ Builtin.bitAnd _ _ < _
    omega

end
section
theorem wd_P16_0 : True := by
  k_with_none
  exact trivial
theorem wd_P16_24 : True := by
  k_with "KD" => first | exact dlt (by assumption) (by first | decide | omega) | exact dlt1 (by assumption) (by first | decide | omega) | exact dlt0 (by assumption) | ktr_room
  k_with "KU" => first | exact ult (by assumption) (by first | decide | omega) | ktr_units
  k_with "ENTER" => (refine' enter_ ?zqk1 ?zqk2 ?zqk3 ?zqk4 ?zqk5 ?zqkA ?zqkF ?zqkK ?zqk6 ?zqk7 ?zqk8 ?zqk9 ?zqkB ?_ ?zqc2 ?zqc3 ?zqc4 ?zqc5; (case zqkA => exact rfl); (case zqkF => exact rfl); (case zqkK => first | exact rfl | assumption); (case zqk1 => k_asm); (case zqk2 => k_asm); (case zqk3 => k_asm); (case zqk4 => k_asm); (case zqk5 => k_asm); (case zqk6 => k_is); (case zqk7 => k_is); (case zqk8 => walk_at "KD"); (case zqk9 => first | exact BindsTo.of_eq rfl | exact binds_K (by k_in) rfl (by k_is) rfl rfl rfl | fail "ENTER: no rule for these arguments"); (case zqc5 => decide); (case zqkB => exact locs rfl); (case zqc2 => exact rfl); (case zqc3 => exact rfl); (case zqc4 => exact rfl); k_whole; intro g' L' h' tk' FG' mm F' N' B' X' T' qk ek)
  k_with "call ref" => (k_here; k_dflt (first | (refine' call_cls0 ?zqk1 ?zqk2 ?zqk3 ?zqk4 ?zqk5 ?_; (case zqk1 => k_asm); (case zqk2 => k_asm); (case zqk3 => k_asm); (case zqk4 => k_is); (case zqk5 => k_is); k_whole; intro x' d' h' F' N' l1 l2; (try k_lt l1); (try k_lt2 l2); (try k_sweep)) | (refine' call_cls ?zqk1 ?zqk2 ?zqk3 ?zqk4 ?zqk5 ?zqk6 ?_; (case zqk1 => k_asm); (case zqk2 => k_asm); (case zqk3 => k_asm); (case zqk4 => k_is); (case zqk5 => k_is); (case zqk6 => k_is); k_whole; intro x' d' h' F' N' l1 l2; (try k_lt l1); (try k_lt2 l2); (try k_sweep); walk_at "ENTER") | (refine' call_meth ?zqk1 ?zqk2 ?_; (case zqk1 => k_asm); (case zqk2 => k_mem); k_whole; walk_at "ENTER") | (refine wpAny_call ?_; walk_at "ENTER")))
  k_with "call builtin:len" => (k_here; (with_reducible show wpAny _ _ (call (Value.builtin "len") [Value.ref _]) _ _ _); k_dflt (refine' kst_len ?zqk1 ?zqk2 ?zqk3 ?zqk4 ?_; (case zqk1 => k_asm); (case zqk2 => k_mem); (case zqk3 => first | assumption | exact rfl); (case zqk4 => omega); k_whole))
  k_with "WhileStep2" => (first | (with_reducible show WhileStep2 _ _ _ _ _ _ (Flow.ret _) _) | (with_reducible show WhileStep2 _ _ _ _ _ _ Flow.brk _)); (dsimp only [WhileStep2])
  k_with "execs cons" => (k_here; refine wpAny_execs_cons (foldQ ?_); intro qs)
  k_with "storeName" => (k_here; (try dsimp only); k_dflt (refine' store_ ?zqF ?zqN ?_ ?zqa ?zqb; (case zqF => k_asm); (case zqN => k_asm); (case zqa => first | exact rfl | assumption); (case zqb => rfl); k_whole; intro h' tk' mm F' N'; (try k_sweep)))
  k_with "exec While Compare cons nil" => refine Halt.go ?_
  k_with "pyIter ref" => refine Halt.go ?_
  k_with "call type:enumerate" => refine Halt.go ?_
  k_with "KswEnd" => refine Halt.at (k := "KswEnd") (by assumption) ?_
  k_with "subscriptTail" => refine Halt.at (k := "subscriptTail") (by assumption) ?_
  k_with "eval ListComp" => refine Halt.at (k := "eval ListComp") (by assumption) ?_
  k_with "CompSrc" => refine Halt.at (k := "CompSrc") (by assumption) ?_
  k_with "CompEnd" => refine Halt.at (k := "CompEnd") (by assumption) ?_
  k_with "call ref" => refine Halt.at (k := "call ref") (by assumption) ?_
  k_with "call builtin:sorted" => refine Halt.at (k := "call builtin:sorted") (by assumption) ?_
  k_with "call builtin:repr" => refine Halt.at (k := "call builtin:repr") (by assumption) ?_
  k_with "unpackItems ref" => refine Halt.at (k := "unpackItems ref") (by assumption) ?_
  k_with "compareOp Eq ref ref" => refine Halt.at (k := "compareOp Eq ref ref") (by assumption) ?_
  k_with "call type:str" => refine Halt.at (k := "call type:str") (by assumption) ?_
  k_with "K4" => ((case zqk1 => k_asm); (case zqk2 => k_asm); (case zqk3 => k_asm); (case zqk4 => k_asm))
  k_with "K56" => ((case zqk5 => first | assumption | (with_unfolding_all assumption)); (case zqk6 => first | assumption | (with_unfolding_all assumption)))
  k_with "KN" => (k_whole; intro h' tj' n' F' N' hT' hK'; (try dsimp only); (try k_sweep))
  k_with "getAttr ref" => (k_here; (with_reducible show wpAny _ _ (getAttr (Value.ref _) (PySem.Str.ofString "free") _) _ _ _); k_dflt (refine' get_free ?zqk1 ?zqk2 ?zqk3 ?zqk4 ?_; walk_at "K4"; k_whole; intro tk' tj'; (try dsimp only)))
  k_with "getAttr ref" => (k_here; (with_reducible show wpAny _ _ (getAttr (Value.ref _) (PySem.Str.ofString "size") _) _ _ _); k_dflt (refine' get_size ?zqk1 ?zqk2 ?zqk3 ?zqk4 ?_; walk_at "K4"; k_whole; intro tk' tj'; (try dsimp only)))
  k_with "getAttr ref" => (k_here; (with_reducible show wpAny _ _ (getAttr (Value.ref _) (PySem.Str.ofString "array") _) _ _ _); k_dflt (refine' get_array ?zqk1 ?zqk2 ?zqk3 ?zqk4 ?_; walk_at "K4"; k_whole; intro tj'; (try dsimp only)))
  k_with "getAttr ref" => (k_here; (with_reducible show wpAny _ _ (getAttr (Value.ref _) (PySem.Str.ofString "nodes") _) _ _ _); k_dflt (refine' get_nodes ?zqk1 ?zqk2 ?zqk3 ?zqk4 ?_; walk_at "K4"; k_whole; intro tj'; (try dsimp only)))
  k_with "getAttr ref" => (k_here; (with_reducible show wpAny _ _ (getAttr (Value.ref _) (PySem.Str.ofString "key") _) _ _ _); k_dflt (first | (refine' get_key_none ?zqk1 ?zqk2 ?zqk3 ?zqk4 ?zqk5 ?zqk6 ?zqk7 ?_; walk_at "K4"; walk_at "K56"; (case zqk7 => assumption); k_whole; intro tj'; (try dsimp only)) | (refine' get_key_some ?zqk1 ?zqk2 ?zqk3 ?zqk4 ?zqk5 ?zqk6 ?zqk7 ?_; walk_at "K4"; walk_at "K56"; (case zqk7 => assumption); k_whole; intro kv' tj' hkv'; (try dsimp only)) | (refine' get_key_any ?zqk1 ?zqk2 ?zqk3 ?zqk4 ?zqk5 ?zqk6 ?_; walk_at "K4"; walk_at "K56"; k_whole; intro kv' tj' hkv'; (try dsimp only))))
  k_with "getAttr ref" => (k_here; (with_reducible show wpAny _ _ (getAttr (Value.ref _) (PySem.Str.ofString "value") _) _ _ _); k_dflt (refine' get_value ?zqk1 ?zqk2 ?zqk3 ?zqk4 ?zqk5 ?zqk6 ?_; walk_at "K4"; walk_at "K56"; k_whole; intro tj'; (try dsimp only)))
  k_with "getAttr ref" => (k_here; (with_reducible show wpAny _ _ (getAttr (Value.ref _) (PySem.Str.ofString "next") _) _ _ _); k_dflt (refine' get_next ?zqk1 ?zqk2 ?zqk3 ?zqk4 ?zqk5 ?zqk6 ?_; walk_at "K4"; walk_at "K56"; k_whole; intro tk' tj'; (try dsimp only)))
  k_with "setAttr ref" => (k_here; (with_reducible show wpAny _ _ (setAttr (Value.ref _) (PySem.Str.ofString "free") _) _ _ _); k_dflt (refine' set_free ?zqk1 ?zqk2 ?zqk3 ?zqk4 ?_; walk_at "K4"; walk_at "KN"))
  k_with "setAttr ref" => (k_here; (with_reducible show wpAny _ _ (setAttr (Value.ref _) (PySem.Str.ofString "size") _) _ _ _); k_dflt (refine' set_size ?zqk1 ?zqk2 ?zqk3 ?zqk4 ?_; walk_at "K4"; walk_at "KN"))
  k_with "setAttr ref" => (k_here; (with_reducible show wpAny _ _ (setAttr (Value.ref _) (PySem.Str.ofString "flags") _) _ _ _); k_dflt (refine' set_flags ?zqk1 ?zqk2 ?zqk3 ?zqk4 ?_; walk_at "K4"; walk_at "KN"))
  k_with "setAttr ref" => (k_here; (with_reducible show wpAny _ _ (setAttr (Value.ref _) (PySem.Str.ofString "log_nodes") _) _ _ _); k_dflt (refine' set_log_nodes ?zqk1 ?zqk2 ?zqk3 ?zqk4 ?_; walk_at "K4"; walk_at "KN"))
  k_with "setAttr ref" => (k_here; (with_reducible show wpAny _ _ (setAttr (Value.ref _) (PySem.Str.ofString "key") _) _ _ _); k_dflt (refine' set_key ?zqk1 ?zqk2 ?zqk3 ?zqk4 ?zqk5 ?zqk6 ?zqk7 ?_; walk_at "K4"; walk_at "K56"; (case zqk7 => first | assumption | exact KV.none); walk_at "KN"))
  k_with "setAttr ref" => (k_here; (with_reducible show wpAny _ _ (setAttr (Value.ref _) (PySem.Str.ofString "value") _) _ _ _); k_dflt (refine' set_value ?zqk1 ?zqk2 ?zqk3 ?zqk4 ?zqk5 ?zqk6 ?zqk7 ?_; walk_at "K4"; walk_at "K56"; (case zqk7 => first | assumption | rfl); walk_at "KN"))
  k_with "setAttr ref" => (k_here; (with_reducible show wpAny _ _ (setAttr (Value.ref _) (PySem.Str.ofString "next") _) _ _ _); k_dflt (refine' set_next ?zqk1 ?zqk2 ?zqk3 ?zqk4 ?zqk5 ?zqk6 ?_; walk_at "K4"; walk_at "K56"; walk_at "KN"))
  k_with "getMethod ref" => (k_here; (with_reducible show wpAny _ _ (getMethod (Value.ref _) _ _) _ _ _); k_dflt (refine' tab_meth ?zqk1 ?zqk2 ?zqk3 ?zqk4 ?zqk5 ?zqk6 ?zqk7 ?zqk8 ?_; walk_at "K4"; (case zqk5 => k_is); (case zqk6 => k_is); (case zqk7 => k_is); (case zqk8 => decide +kernel); k_whole))
  k_with "call builtin:len" => (k_here; (with_reducible show wpAny _ _ (call (Value.builtin "len") [Value.ref _]) _ _ _); k_dflt (first | (refine' len_nodes ?zqk3 ?zqk4 ?_; (case zqk3 => k_asm); (case zqk4 => k_asm); k_whole; intro tk' tj'; (try dsimp only)) | (refine' len_arr ?zqk3 ?zqk4 ?_; (case zqk3 => k_asm); (case zqk4 => k_asm); k_whole; intro tk' tj'; (try dsimp only))))
  k_with "subscriptTail" => (k_here; (with_reducible show wpAny _ _ (subscriptTail _ _ (Value.ref _) (Value.int _ _)) _ _ _); k_dflt (first | (refine' item_node ?zqk3 ?zqk4 ?zqk5 ?zqk6 ?_ ?zqk7; (case zqk3 => k_asm); (case zqk4 => k_asm); (case zqk5 => assumption); (case zqk6 => first | assumption | omega); (case zqk7 => with_unfolding_all rfl); k_whole) | (refine' item_arr ?zqk3 ?zqk4 ?zqk5 ?zqk6 ?_ ?zqk7; (case zqk3 => k_asm); (case zqk4 => k_asm); (case zqk5 => assumption); (case zqk6 => first | assumption | omega); (case zqk7 => with_unfolding_all rfl); k_whole)))
  k_with "setItem ref int" => (k_here; (with_reducible show wpAny _ _ (setItem (Value.ref _) (Value.int _ _) _) _ _ _); k_dflt (refine' set_arr ?zqk1 ?zqk3 ?zqk4 ?zqk5 ?zqk6 ?_; (case zqk1 => k_asm); (case zqk3 => k_asm); (case zqk4 => k_asm); (case zqk5 => omega); (case zqk6 => (try dsimp only); omega); k_whole; intro h' n' F' N' hT' hK'; (try dsimp only); (try k_sweep)))
  k_with "call builtin:list.append" => (k_here; (with_reducible show wpAny _ _ (call (Value.builtin _) [Value.ref _, _]) _ _ _); k_dflt (refine' app_arr ?zqk1 ?zqk3 ?zqk4 ?zqk5 ?_; (case zqk1 => k_asm); (case zqk3 => k_asm); (case zqk4 => k_asm); (case zqk5 => (try dsimp only); omega); k_whole; intro h' n' F' N' hT' hK'; (try dsimp only); (try k_sweep)))
  k_with "compareOp Is" => (k_here; (with_reducible show wpAny _ _ (compareOp CmpOp.Is _ Value.none) _ _ _); k_dflt (refine' kv_isnone ?zqk1 ?_; (case zqk1 => assumption); k_whole))
  k_with "exec For Name Name cons nil" => (k_here; (rename Fr _ _ _ _ => lF'); (with_unfolding_all refine' For_invVF lF' ?zqk1 ?zqk2 ?_; (case zqk1 => exact rfl); (case zqk2 => exact rfl); k_whole))
  k_with "exec For Name Call cons nil" => (k_here; (rename Fr _ _ _ _ => lF'); (with_unfolding_all refine' For_invVF lF' ?zqk1 ?zqk2 ?_; (case zqk1 => exact rfl); (case zqk2 => exact rfl); k_whole))
  k_with "exec For Name Attribute cons nil" => (k_here; (rename Fr _ _ _ _ => lF'); (with_unfolding_all refine' For_invVF lF' ?zqk1 ?zqk2 ?_; (case zqk1 => exact rfl); (case zqk2 => exact rfl); k_whole))
  k_with "TP" => ((first | (with_reducible show Mine.TP _ _ _ _ _ _ (Flow.ret _) _) | (with_reducible show Mine.TP _ _ _ _ _ _ Flow.brk _) | (with_reducible show Mine.TP _ _ _ _ _ _ Flow.next _) | (with_reducible show Mine.TP _ _ _ _ _ _ Flow.cont _)); (dsimp only [Mine.TP]))
  k_with "compareOp Is" => (k_here; (with_reducible show wpAny _ _ (compareOp CmpOp.Is _ Value.none) _ _ _); k_dflt (first | (refine' is_eq ?zqk1 ?_; (case zqk1 => assumption); k_whole) | (refine' is_ne ?zqk1 ?_; (case zqk1 => assumption); k_whole)))
  k_with "compareOp IsNot" => (k_here; (with_reducible show wpAny _ _ (compareOp CmpOp.IsNot _ Value.none) _ _ _); k_dflt (first | (refine' isnot_eq ?zqk1 ?_; (case zqk1 => assumption); k_whole) | (refine' isnot_ne ?zqk1 ?_; (case zqk1 => assumption); k_whole)))
  k_with "getItem ref int" => (k_here; (with_reducible show wpAny _ _ (getItem (Value.ref _) (Value.int _ _)) _ _ _); k_dflt (refine' get_cnt ?zqk3 ?zqk4 ?zqk5 ?zqk6 ?zqk7 ?_; (case zqk3 => k_asm); (case zqk4 => k_asm); (case zqk5 => omega); (case zqk6 => omega); (case zqk7 => omega); k_whole; intro tk'))
  k_with "subscriptTail" => (k_here; (with_reducible show wpAny _ _ (subscriptTail _ _ (Value.ref _) (Value.int _ _)) _ _ _); k_dflt (refine' sub_cnt ?zqk3 ?zqk4 ?zqk5 ?zqk6 ?zqk7 ?_ ?zqk8; (case zqk3 => k_asm); (case zqk4 => k_asm); (case zqk5 => omega); (case zqk6 => omega); (case zqk7 => omega); (case zqk8 => with_unfolding_all rfl); k_whole; intro tk'))
  k_with "setItem ref int" => (k_here; (with_reducible show wpAny _ _ (setItem (Value.ref _) (Value.int _ _) (Value.int _ _)) _ _ _); k_dflt (refine' set_cnt ?zqk1 ?zqk3 ?zqk4 ?zqk5 ?zqk6 ?zqk7 ?_; (case zqk1 => k_asm); (case zqk3 => k_asm); (case zqk4 => k_asm); (case zqk5 => omega); (case zqk6 => omega); (case zqk7 => omega); k_whole; intro h' n' F' N' hC' hK'; (try dsimp only); (try k_sweep)))
  exact trivial

theorem cntP_snoc {l : List Value} {v : Value} {n : Nat} (h : l[n]? = some v) : cntP (l.take (n + 1)) = cntP (l.take n) + (if v = .none then 0 else 1) := by
  induction l generalizing n with
  | nil => cases h
  | cons a r ih => cases n with
    | zero => cases h; simp [cntP]
    | succ n => rw [List.take_succ_cons, List.take_succ_cons, cntP, cntP, ih h]; omega
theorem mem_drop_it {I : Addr} {it : Obj} {nw : Led} {p : Addr × Obj} {c : String} (hcl : it.cls = .type c) (h : p ∈ (I, it) :: nw) (hc : p.2.cls ≠ .type c) : p ∈ nw := by
  rcases List.mem_cons.mp h with rfl | h
  · exact absurd hcl hc
  · exact h
theorem iter_inst1 {C d : Addr} {c : String} : (instObj C d).cls ≠ .type c := by intro e; cases e
theorem TabIn.drop_it {I t : Addr} {it : Obj} {nw : Led} {Y : Lay} {T : Tab} (hcl : it.cls = .type "range_iterator") (hT : TabIn ((I, it) :: nw) t Y T) : TabIn nw t Y T := by
  obtain ⟨hi, ⟨o, ho, hd⟩, ⟨ca, ha⟩, ⟨cn, hn⟩, hl, hnode, hdis, haln, g1, g2⟩ := hT
  refine ⟨mem_drop_it hcl hi iter_inst1, ⟨o, ho, mem_drop_it hcl hd (by cases ho; exact iter_dict _ (by decide))⟩, ⟨ca, mem_drop_it hcl ha (iter_list _ (by decide))⟩, ⟨cn, mem_drop_it hcl hn (iter_list _ (by decide))⟩, hl, fun i p x hp hx => ?_, hdis, haln, g1, g2⟩
  obtain ⟨hin, hv, kv, o2, k1, k2, k3⟩ := hnode i p x hp hx
  exact ⟨mem_drop_it hcl hin iter_inst1, hv, kv, o2, k1, k2, mem_drop_it hcl k3 (by cases k2; exact iter_dict _ (by decide))⟩
theorem ListAt.drop_it {I l : Addr} {it : Obj} {nw : Led} {ns : List Int} (hcl : it.cls = .type "range_iterator") (hC : ListAt l ns ((I, it) :: nw)) : ListAt l ns nw := by
  obtain ⟨vs, k, hi, hm⟩ := hC; exact ⟨vs, k, hi, mem_drop_it hcl hm (iter_list _ (by decide))⟩
set_option maxRecDepth 100000 in
set_option maxHeartbeats 8000000 in
theorem countarr_spec (w : World) (t l : Addr) (Y : Lay) (T : Tab) (ns : List Int) (hlen : ns.length = 27) (hl : Y.al ≠ l) (hl2 : Y.nl ≠ l) : Spec w 308 [.ref t, .ref l] 6 (fun nw => TabIn nw t Y T ∧ ListAt l ns nw)
    (fun n0 r n1 => TabIn n1 t Y T ∧ ListAt l (caLoop T.arr 27 0 0 1 0 ns).2 n1 ∧ KeepBut l n0 n1 ∧ ∃ tk, r = .int (caLoop T.arr 27 0 0 1 0 ns).1 tk) := by
  unfold Spec
  k_fill
  intro mean mg mb dp un gd cn cs a ccd cl outer A₀ base h₀ L m news s Q E B F X N TP hk hP hd hu hret
  w_top on
  w_on
  obtain ⟨hT, hC⟩ := hP
  k_steps
  constructor
  (rename IsRange _ _ _ _ _ _ _ _ => hR)
  (rename Fr _ _ _ _ => lF); (rename News _ _ _ _ => lN)
  with_unfolding_all refine' for_range (n := 27) (σ := (Nat × Nat × Int × List Int) × (Tok × Tok × Tok)) (fun c => [(Str.ofString "total", .int c.1.2.2.1 c.2.1), (Str.ofString "at", .int ((c.1.1 : Int) + 1) c.2.2.1), (Str.ofString "limit", .int (c.1.2.1 : Int) c.2.2.2)]) [Str.ofString "last", Str.ofString "here"] (fun i c nw => TabIn nw t Y T ∧ ListAt l c.1.2.2.2 nw ∧ KeepBut l news nw ∧ c.1.2.2.2.length = 27 ∧ c.1.2.1 = 2 ^ i ∧ caLoop T.arr (27 - i) i c.1.1 c.1.2.1 c.1.2.2.1 c.1.2.2.2 = caLoop T.arr 27 0 0 1 0 ns) ((0, 1, 0, ns), (_, _, _)) rfl hR (by decide) (by decide) lF lN ?hk ?start ?turn ?done
  case hk => (intro p hp; simp only [List.mem_cons, List.not_mem_nil, or_false] at hp; rcases hp with rfl | rfl | rfl <;> rfl)
  case start => exact ⟨hT, hC, fun p hp _ => hp, hlen, rfl, rfl⟩
  case turn =>
    clear lF lN hT hC
    refine all43 ?_; rintro a1 lim tt cns tg tu tl i ti uu nw I it h tk hi hcl hI ⟨hT, hC, hK, hlen, hlim, hcn⟩ F N
    dsimp only at hcn hlen hC hlim
    have hT2 : TabIn ((I, it) :: nw) t Y T := hT.mono fun p hp => .tail _ hp
    have hC2 : ListAt l cns ((I, it) :: nw) := hC.mono fun p hp _ => .tail _ hp
    have hIl : I ≠ l := hC2.ne N (.head _) fun vs n e => by rw [e] at hcl; simp at hcl
    have hbut : ∀ n', KeepBut l ((I, it) :: nw) n' → TabIn n' t Y T := fun n' hK => hT2.but N hC2 hK hl hl2
    have hlb : lim ≤ 67108864 := by rw [hlim]; exact Nat.le_trans (Nat.pow_le_pow_right (by decide) (by omega : i ≤ 26)) (by decide)
    have hal := T.arr.length
    have hasz := hT.asz
    clear hT hC
    (try k_fold)
    k_steps
    · have e9 : min lim T.arr.length ≤ a1 := by dsimp only at *; omega
      rw [show 27 - i = (26 - i) + 1 from Nat.succ_sub (Nat.le_of_lt_succ hi), caLoop, if_pos e9] at hcn
      rw [← hcn] at hret
      exact hret _ _ _ _ (by k_asm) (News.tl (by k_asm)) ⟨TabIn.drop_it hcl hT2, ListAt.drop_it hcl hC2, hK, _, rfl⟩
    · constructor
      have e9 : ¬ min lim T.arr.length ≤ a1 := by dsimp only at *; omega
      rw [show 27 - i = (26 - i) + 1 from Nat.succ_sub (Nat.le_of_lt_succ hi), caLoop, if_neg e9] at hcn
      (rename Fr _ _ _ _ => lF); (rename News _ _ _ _ => lN)
      with_unfolding_all refine' ksw_while (σ := (Nat × Int) × (Tok × Tok)) (fun _ => _) (fun c => [(Str.ofString "at", .int ((c.1.1 : Int) + 1) c.2.1), (Str.ofString "here", .int c.1.2 c.2.2)]) (fun _ => True) [] (fun c => a1 ≤ c.1.1 ∧ c.1.1 ≤ min lim T.arr.length ∧ c.1.2 = cntP ((T.arr.drop a1).take (c.1.1 - a1))) (fun c => min lim T.arr.length - c.1.1) ((a1, 0), (_, _)) lF lN trivial ?hk ?hp ?turn
      case hk => (intro p hp; simp only [List.mem_cons, List.not_mem_nil, or_false] at hp; rcases hp with rfl | rfl <;> rfl)
      case hp => exact ⟨Nat.le_refl _, by dsimp only; omega, by dsimp only; rw [Nat.sub_self, List.take_zero]; rfl⟩
      clear lF lN F; refine all22 ?_; rintro j hr tj1 th1 u h tk hf ⟨hj1, hj2, hj3⟩ F N
      dsimp only at hj1 hj2 hj3
      by_cases hj : j < min lim T.arr.length
      · obtain ⟨v, hv⟩ : ∃ v, T.arr[j]? = some v := ⟨_, List.getElem?_eq_getElem (by omega)⟩
        have hstep : cntP ((T.arr.drop a1).take (j + 1 - a1)) = hr + (if v = .none then 0 else 1) := by
          rw [hj3, show j + 1 - a1 = (j - a1) + 1 from Nat.succ_sub hj1]
          exact cntP_snoc (by rw [List.getElem?_drop, show a1 + (j - a1) = j from Nat.add_sub_cancel' hj1]; exact hv)
        by_cases hvn : v = .none
        · rw [if_pos hvn] at hstep
          (try k_fold)
          k_steps
          refine ksw_end ⟨(j + 1, hr), (_, _)⟩ (by assumption) (by assumption) (by kst_in) (by kst_facts) (by kst_all) (by (first | (intro z h2 h3; have h4 := ne_true_of_eq_false h3; simp only [List.forall_mem_cons, List.not_mem_nil, false_implies, implies_true, and_true, ne_eq] at h2; (try simp only [List.contains_cons, List.contains_nil, Bool.or_false, Bool.or_eq_false_iff, beq_eq_false_iff_ne, ne_eq] at h3); (repeat first | with_reducible rfl | (refine Eq.trans (kstB_ne ?zqs) ?_; (case zqs => first | exact h2 | exact h2.1 | exact h2.2 | exact h2.2.1 | exact h2.2.2 | exact h2.2.2.1 | exact h2.2.2.2 | exact h3 | exact h3.1 | exact h3.2 | exact h3.2.1 | exact h3.2.2 | exact h4)) | (refine Eq.trans (kstB_nil _ _) ?_) | (refine Eq.trans (if_neg ?zqs) ?_; (case zqs => first | exact h2 | exact h2.1 | exact h2.2 | exact h2.2.1 | exact h2.2.2 | exact h2.2.2.1 | exact h2.2.2.2 | exact h3 | exact h3.1 | exact h3.2 | exact h3.2.1 | exact h3.2.2 | exact h4))); done) | (intro z h2 h3; simp only [List.forall_mem_cons, List.not_mem_nil, false_implies, implies_true, and_true, ne_eq] at h2; (try simp only [List.contains_cons, List.contains_nil, Bool.or_false, Bool.or_eq_false_iff, beq_eq_false_iff_ne, ne_eq] at h3); simp +zetaDelta [kstB, h2, h3]))) ⟨by dsimp only; omega, by dsimp only; omega, by dsimp only; omega⟩ (by dsimp only; omega)
        · rw [if_neg hvn] at hstep
          (try k_fold)
          k_steps
          refine ksw_end ⟨(j + 1, hr + 1), (_, _)⟩ (by assumption) (by assumption) (by kst_in) (by kst_facts) (by kst_all) (by (first | (intro z h2 h3; have h4 := ne_true_of_eq_false h3; simp only [List.forall_mem_cons, List.not_mem_nil, false_implies, implies_true, and_true, ne_eq] at h2; (try simp only [List.contains_cons, List.contains_nil, Bool.or_false, Bool.or_eq_false_iff, beq_eq_false_iff_ne, ne_eq] at h3); (repeat first | with_reducible rfl | (refine Eq.trans (kstB_ne ?zqs) ?_; (case zqs => first | exact h2 | exact h2.1 | exact h2.2 | exact h2.2.1 | exact h2.2.2 | exact h2.2.2.1 | exact h2.2.2.2 | exact h3 | exact h3.1 | exact h3.2 | exact h3.2.1 | exact h3.2.2 | exact h4)) | (refine Eq.trans (kstB_nil _ _) ?_) | (refine Eq.trans (if_neg ?zqs) ?_; (case zqs => first | exact h2 | exact h2.1 | exact h2.2 | exact h2.2.1 | exact h2.2.2 | exact h2.2.2.1 | exact h2.2.2.2 | exact h3 | exact h3.1 | exact h3.2 | exact h3.2.1 | exact h3.2.2 | exact h4))); done) | (intro z h2 h3; simp only [List.forall_mem_cons, List.not_mem_nil, false_implies, implies_true, and_true, ne_eq] at h2; (try simp only [List.contains_cons, List.contains_nil, Bool.or_false, Bool.or_eq_false_iff, beq_eq_false_iff_ne, ne_eq] at h3); simp +zetaDelta [kstB, h2, h3]))) ⟨by dsimp only; omega, by dsimp only; omega, by dsimp only; omega⟩ (by dsimp only; omega)
      · have hje : j = min lim T.arr.length := by omega
        rw [hje] at hj3
        (try k_fold)
        k_steps
        (rename KeepBut _ _ _ => hK2)
        (rename ListAt _ _ _ => hC3)
        (rename News _ _ _ _ => N3)
        subst hje
        rw [show (0 + (i : Int)).toNat = i by omega, hj3] at hC3
        refine te_end ((min lim T.arr.length, lim * 2, tt + hr, cns.set i (cns.getD i 0 + hr)), (_, _, _)) (by assumption) N3 (fun q hq => by rw [List.mem_singleton.mp hq]; exact hK2 _ (.head _) hIl) (by kst_all) (by (first | (intro z h1 h2 h3; have h4 := ne_true_of_eq_false h3; simp only [List.forall_mem_cons, List.not_mem_nil, false_implies, implies_true, and_true, ne_eq] at h2; (try simp only [List.contains_cons, List.contains_nil, Bool.or_false, Bool.or_eq_false_iff, beq_eq_false_iff_ne, ne_eq] at h3); (repeat first | with_reducible rfl | (refine Eq.trans (kstB_ne ?zqs) ?_; (case zqs => first | exact h1 | exact h2 | exact h2.1 | exact h2.2 | exact h2.2.1 | exact h2.2.2 | exact h2.2.2.1 | exact h2.2.2.2 | exact h3 | exact h3.1 | exact h3.2 | exact h3.2.1 | exact h3.2.2 | exact h4)) | (refine Eq.trans (kstB_nil _ _) ?_) | (refine Eq.trans (if_neg ?zqs) ?_; (case zqs => first | exact h1 | exact h2 | exact h2.1 | exact h2.2 | exact h2.2.1 | exact h2.2.2 | exact h2.2.2.1 | exact h2.2.2.2 | exact h3 | exact h3.1 | exact h3.2 | exact h3.2.1 | exact h3.2.2 | exact h4))); done) | (intro z h1 h2 h3; simp only [List.forall_mem_cons, List.not_mem_nil, false_implies, implies_true, and_true, ne_eq] at h2; (try simp only [List.contains_cons, List.contains_nil, Bool.or_false, Bool.or_eq_false_iff, beq_eq_false_iff_ne, ne_eq] at h3); simp +zetaDelta [kstB, h1, h2, h3]))) ⟨(hbut _ hK2).offl N3 (fun q hq => by rw [List.mem_singleton.mp hq]; exact hK2 _ (.head _) hIl) (iterLed1 hcl (by decide)), ?_, fun p hp hn => mem_offl.mpr ⟨hK2 _ (.tail _ (hK p hp hn)) hn, fun q hq => ?_⟩, ?_, ?_, ?_⟩
        · dsimp only
          rw [hj3]
          exact hC3.offl N3 (fun q hq => by rw [List.mem_singleton.mp hq]; exact hK2 _ (.head _) hIl) (iterLed1 hcl (by decide))
        · rw [List.mem_singleton.mp hq]; exact hI p (hK p hp hn)
        · dsimp only; rw [List.length_set]; exact hlen
        · dsimp only; rw [hlim, Nat.pow_succ]
        · dsimp only
          rw [show 27 - (i + 1) = 26 - i from Nat.add_sub_add_right 26 1 i, hj3]; exact hcn
  case done =>
    clear lF lN hT hC
    refine all43 ?_; rintro a1 lim tt cns tg tu tl uu nw h tk ⟨hT, hC, hK, hlen, hlim, hcn⟩ F N
    dsimp only at hcn hlen hC hlim
    rw [Nat.sub_self, caLoop] at hcn
    rw [← hcn] at hret
    k_steps
    exact hret _ _ _ _ (by k_asm) (by k_asm) ⟨hT, hC, hK, _, rfl⟩

end
section
theorem wd_P17_0 : True := by
  k_with_none
  exact trivial
theorem wd_P17_25 : True := by
  k_with "KD" => first | exact dlt (by assumption) (by first | decide | omega) | exact dlt1 (by assumption) (by first | decide | omega) | exact dlt0 (by assumption) | ktr_room
  k_with "KU" => first | exact ult (by assumption) (by first | decide | omega) | ktr_units
  k_with "ENTER" => (refine' enter_ ?zqk1 ?zqk2 ?zqk3 ?zqk4 ?zqk5 ?zqkA ?zqkF ?zqkK ?zqk6 ?zqk7 ?zqk8 ?zqk9 ?zqkB ?_ ?zqc2 ?zqc3 ?zqc4 ?zqc5; (case zqkA => exact rfl); (case zqkF => exact rfl); (case zqkK => first | exact rfl | assumption); (case zqk1 => k_asm); (case zqk2 => k_asm); (case zqk3 => k_asm); (case zqk4 => k_asm); (case zqk5 => k_asm); (case zqk6 => k_is); (case zqk7 => k_is); (case zqk8 => walk_at "KD"); (case zqk9 => first | exact BindsTo.of_eq rfl | exact binds_K (by k_in) rfl (by k_is) rfl rfl rfl | fail "ENTER: no rule for these arguments"); (case zqc5 => decide); (case zqkB => exact locs rfl); (case zqc2 => exact rfl); (case zqc3 => exact rfl); (case zqc4 => exact rfl); k_whole; intro g' L' h' tk' FG' mm F' N' B' X' T' qk ek)
  k_with "call ref" => (k_here; k_dflt (first | (refine' call_cls0 ?zqk1 ?zqk2 ?zqk3 ?zqk4 ?zqk5 ?_; (case zqk1 => k_asm); (case zqk2 => k_asm); (case zqk3 => k_asm); (case zqk4 => k_is); (case zqk5 => k_is); k_whole; intro x' d' h' F' N' l1 l2; (try k_lt l1); (try k_lt2 l2); (try k_sweep)) | (refine' call_cls ?zqk1 ?zqk2 ?zqk3 ?zqk4 ?zqk5 ?zqk6 ?_; (case zqk1 => k_asm); (case zqk2 => k_asm); (case zqk3 => k_asm); (case zqk4 => k_is); (case zqk5 => k_is); (case zqk6 => k_is); k_whole; intro x' d' h' F' N' l1 l2; (try k_lt l1); (try k_lt2 l2); (try k_sweep); walk_at "ENTER") | (refine' call_meth ?zqk1 ?zqk2 ?_; (case zqk1 => k_asm); (case zqk2 => k_mem); k_whole; walk_at "ENTER") | (refine wpAny_call ?_; walk_at "ENTER")))
  k_with "call builtin:len" => (k_here; (with_reducible show wpAny _ _ (call (Value.builtin "len") [Value.ref _]) _ _ _); k_dflt (refine' kst_len ?zqk1 ?zqk2 ?zqk3 ?zqk4 ?_; (case zqk1 => k_asm); (case zqk2 => k_mem); (case zqk3 => first | assumption | exact rfl); (case zqk4 => omega); k_whole))
  k_with "WhileStep2" => (first | (with_reducible show WhileStep2 _ _ _ _ _ _ (Flow.ret _) _) | (with_reducible show WhileStep2 _ _ _ _ _ _ Flow.brk _)); (dsimp only [WhileStep2])
  k_with "execs cons" => (k_here; refine wpAny_execs_cons (foldQ ?_); intro qs)
  k_with "storeName" => (k_here; (try dsimp only); k_dflt (refine' store_ ?zqF ?zqN ?_ ?zqa ?zqb; (case zqF => k_asm); (case zqN => k_asm); (case zqa => first | exact rfl | assumption); (case zqb => rfl); k_whole; intro h' tk' mm F' N'; (try k_sweep)))
  k_with "exec While Compare cons nil" => refine Halt.go ?_
  k_with "pyIter ref" => refine Halt.go ?_
  k_with "call type:enumerate" => refine Halt.go ?_
  k_with "KswEnd" => refine Halt.at (k := "KswEnd") (by assumption) ?_
  k_with "subscriptTail" => refine Halt.at (k := "subscriptTail") (by assumption) ?_
  k_with "eval ListComp" => refine Halt.at (k := "eval ListComp") (by assumption) ?_
  k_with "CompSrc" => refine Halt.at (k := "CompSrc") (by assumption) ?_
  k_with "CompEnd" => refine Halt.at (k := "CompEnd") (by assumption) ?_
  k_with "call ref" => refine Halt.at (k := "call ref") (by assumption) ?_
  k_with "call builtin:sorted" => refine Halt.at (k := "call builtin:sorted") (by assumption) ?_
  k_with "call builtin:repr" => refine Halt.at (k := "call builtin:repr") (by assumption) ?_
  k_with "unpackItems ref" => refine Halt.at (k := "unpackItems ref") (by assumption) ?_
  k_with "compareOp Eq ref ref" => refine Halt.at (k := "compareOp Eq ref ref") (by assumption) ?_
  k_with "call type:str" => refine Halt.at (k := "call type:str") (by assumption) ?_
  k_with "K4" => ((case zqk1 => k_asm); (case zqk2 => k_asm); (case zqk3 => k_asm); (case zqk4 => k_asm))
  k_with "K56" => ((case zqk5 => first | assumption | (with_unfolding_all assumption)); (case zqk6 => first | assumption | (with_unfolding_all assumption)))
  k_with "KN" => (k_whole; intro h' tj' n' F' N' hT' hK'; (try dsimp only); (try k_sweep))
  k_with "getAttr ref" => (k_here; (with_reducible show wpAny _ _ (getAttr (Value.ref _) (PySem.Str.ofString "free") _) _ _ _); k_dflt (refine' get_free ?zqk1 ?zqk2 ?zqk3 ?zqk4 ?_; walk_at "K4"; k_whole; intro tk' tj'; (try dsimp only)))
  k_with "getAttr ref" => (k_here; (with_reducible show wpAny _ _ (getAttr (Value.ref _) (PySem.Str.ofString "size") _) _ _ _); k_dflt (refine' get_size ?zqk1 ?zqk2 ?zqk3 ?zqk4 ?_; walk_at "K4"; k_whole; intro tk' tj'; (try dsimp only)))
  k_with "getAttr ref" => (k_here; (with_reducible show wpAny _ _ (getAttr (Value.ref _) (PySem.Str.ofString "array") _) _ _ _); k_dflt (refine' get_array ?zqk1 ?zqk2 ?zqk3 ?zqk4 ?_; walk_at "K4"; k_whole; intro tj'; (try dsimp only)))
  k_with "getAttr ref" => (k_here; (with_reducible show wpAny _ _ (getAttr (Value.ref _) (PySem.Str.ofString "nodes") _) _ _ _); k_dflt (refine' get_nodes ?zqk1 ?zqk2 ?zqk3 ?zqk4 ?_; walk_at "K4"; k_whole; intro tj'; (try dsimp only)))
  k_with "getAttr ref" => (k_here; (with_reducible show wpAny _ _ (getAttr (Value.ref _) (PySem.Str.ofString "key") _) _ _ _); k_dflt (first | (refine' get_key_none ?zqk1 ?zqk2 ?zqk3 ?zqk4 ?zqk5 ?zqk6 ?zqk7 ?_; walk_at "K4"; walk_at "K56"; (case zqk7 => assumption); k_whole; intro tj'; (try dsimp only)) | (refine' get_key_some ?zqk1 ?zqk2 ?zqk3 ?zqk4 ?zqk5 ?zqk6 ?zqk7 ?_; walk_at "K4"; walk_at "K56"; (case zqk7 => assumption); k_whole; intro kv' tj' hkv'; (try dsimp only)) | (refine' get_key_any ?zqk1 ?zqk2 ?zqk3 ?zqk4 ?zqk5 ?zqk6 ?_; walk_at "K4"; walk_at "K56"; k_whole; intro kv' tj' hkv'; (try dsimp only))))
  k_with "getAttr ref" => (k_here; (with_reducible show wpAny _ _ (getAttr (Value.ref _) (PySem.Str.ofString "value") _) _ _ _); k_dflt (refine' get_value ?zqk1 ?zqk2 ?zqk3 ?zqk4 ?zqk5 ?zqk6 ?_; walk_at "K4"; walk_at "K56"; k_whole; intro tj'; (try dsimp only)))
  k_with "getAttr ref" => (k_here; (with_reducible show wpAny _ _ (getAttr (Value.ref _) (PySem.Str.ofString "next") _) _ _ _); k_dflt (refine' get_next ?zqk1 ?zqk2 ?zqk3 ?zqk4 ?zqk5 ?zqk6 ?_; walk_at "K4"; walk_at "K56"; k_whole; intro tk' tj'; (try dsimp only)))
  k_with "setAttr ref" => (k_here; (with_reducible show wpAny _ _ (setAttr (Value.ref _) (PySem.Str.ofString "free") _) _ _ _); k_dflt (refine' set_free ?zqk1 ?zqk2 ?zqk3 ?zqk4 ?_; walk_at "K4"; walk_at "KN"))
  k_with "setAttr ref" => (k_here; (with_reducible show wpAny _ _ (setAttr (Value.ref _) (PySem.Str.ofString "size") _) _ _ _); k_dflt (refine' set_size ?zqk1 ?zqk2 ?zqk3 ?zqk4 ?_; walk_at "K4"; walk_at "KN"))
  k_with "setAttr ref" => (k_here; (with_reducible show wpAny _ _ (setAttr (Value.ref _) (PySem.Str.ofString "flags") _) _ _ _); k_dflt (refine' set_flags ?zqk1 ?zqk2 ?zqk3 ?zqk4 ?_; walk_at "K4"; walk_at "KN"))
  k_with "setAttr ref" => (k_here; (with_reducible show wpAny _ _ (setAttr (Value.ref _) (PySem.Str.ofString "log_nodes") _) _ _ _); k_dflt (refine' set_log_nodes ?zqk1 ?zqk2 ?zqk3 ?zqk4 ?_; walk_at "K4"; walk_at "KN"))
  k_with "setAttr ref" => (k_here; (with_reducible show wpAny _ _ (setAttr (Value.ref _) (PySem.Str.ofString "key") _) _ _ _); k_dflt (refine' set_key ?zqk1 ?zqk2 ?zqk3 ?zqk4 ?zqk5 ?zqk6 ?zqk7 ?_; walk_at "K4"; walk_at "K56"; (case zqk7 => first | assumption | exact KV.none); walk_at "KN"))
  k_with "setAttr ref" => (k_here; (with_reducible show wpAny _ _ (setAttr (Value.ref _) (PySem.Str.ofString "value") _) _ _ _); k_dflt (refine' set_value ?zqk1 ?zqk2 ?zqk3 ?zqk4 ?zqk5 ?zqk6 ?zqk7 ?_; walk_at "K4"; walk_at "K56"; (case zqk7 => first | assumption | rfl); walk_at "KN"))
  k_with "setAttr ref" => (k_here; (with_reducible show wpAny _ _ (setAttr (Value.ref _) (PySem.Str.ofString "next") _) _ _ _); k_dflt (refine' set_next ?zqk1 ?zqk2 ?zqk3 ?zqk4 ?zqk5 ?zqk6 ?_; walk_at "K4"; walk_at "K56"; walk_at "KN"))
  k_with "getMethod ref" => (k_here; (with_reducible show wpAny _ _ (getMethod (Value.ref _) _ _) _ _ _); k_dflt (refine' tab_meth ?zqk1 ?zqk2 ?zqk3 ?zqk4 ?zqk5 ?zqk6 ?zqk7 ?zqk8 ?_; walk_at "K4"; (case zqk5 => k_is); (case zqk6 => k_is); (case zqk7 => k_is); (case zqk8 => decide +kernel); k_whole))
  k_with "call builtin:len" => (k_here; (with_reducible show wpAny _ _ (call (Value.builtin "len") [Value.ref _]) _ _ _); k_dflt (first | (refine' len_nodes ?zqk3 ?zqk4 ?_; (case zqk3 => k_asm); (case zqk4 => k_asm); k_whole; intro tk' tj'; (try dsimp only)) | (refine' len_arr ?zqk3 ?zqk4 ?_; (case zqk3 => k_asm); (case zqk4 => k_asm); k_whole; intro tk' tj'; (try dsimp only))))
  k_with "subscriptTail" => (k_here; (with_reducible show wpAny _ _ (subscriptTail _ _ (Value.ref _) (Value.int _ _)) _ _ _); k_dflt (first | (refine' item_node ?zqk3 ?zqk4 ?zqk5 ?zqk6 ?_ ?zqk7; (case zqk3 => k_asm); (case zqk4 => k_asm); (case zqk5 => assumption); (case zqk6 => first | assumption | omega); (case zqk7 => with_unfolding_all rfl); k_whole) | (refine' item_arr ?zqk3 ?zqk4 ?zqk5 ?zqk6 ?_ ?zqk7; (case zqk3 => k_asm); (case zqk4 => k_asm); (case zqk5 => assumption); (case zqk6 => first | assumption | omega); (case zqk7 => with_unfolding_all rfl); k_whole)))
  k_with "setItem ref int" => (k_here; (with_reducible show wpAny _ _ (setItem (Value.ref _) (Value.int _ _) _) _ _ _); k_dflt (refine' set_arr ?zqk1 ?zqk3 ?zqk4 ?zqk5 ?zqk6 ?_; (case zqk1 => k_asm); (case zqk3 => k_asm); (case zqk4 => k_asm); (case zqk5 => omega); (case zqk6 => (try dsimp only); omega); k_whole; intro h' n' F' N' hT' hK'; (try dsimp only); (try k_sweep)))
  k_with "call builtin:list.append" => (k_here; (with_reducible show wpAny _ _ (call (Value.builtin _) [Value.ref _, _]) _ _ _); k_dflt (refine' app_arr ?zqk1 ?zqk3 ?zqk4 ?zqk5 ?_; (case zqk1 => k_asm); (case zqk3 => k_asm); (case zqk4 => k_asm); (case zqk5 => (try dsimp only); omega); k_whole; intro h' n' F' N' hT' hK'; (try dsimp only); (try k_sweep)))
  k_with "compareOp Is" => (k_here; (with_reducible show wpAny _ _ (compareOp CmpOp.Is _ Value.none) _ _ _); k_dflt (refine' kv_isnone ?zqk1 ?_; (case zqk1 => assumption); k_whole))
  k_with "exec For Name Name cons nil" => (k_here; (rename Fr _ _ _ _ => lF'); (with_unfolding_all refine' For_invVF lF' ?zqk1 ?zqk2 ?_; (case zqk1 => exact rfl); (case zqk2 => exact rfl); k_whole))
  k_with "exec For Name Call cons nil" => (k_here; (rename Fr _ _ _ _ => lF'); (with_unfolding_all refine' For_invVF lF' ?zqk1 ?zqk2 ?_; (case zqk1 => exact rfl); (case zqk2 => exact rfl); k_whole))
  k_with "exec For Name Attribute cons nil" => (k_here; (rename Fr _ _ _ _ => lF'); (with_unfolding_all refine' For_invVF lF' ?zqk1 ?zqk2 ?_; (case zqk1 => exact rfl); (case zqk2 => exact rfl); k_whole))
  k_with "TP" => ((first | (with_reducible show Mine.TP _ _ _ _ _ _ (Flow.ret _) _) | (with_reducible show Mine.TP _ _ _ _ _ _ Flow.brk _) | (with_reducible show Mine.TP _ _ _ _ _ _ Flow.next _) | (with_reducible show Mine.TP _ _ _ _ _ _ Flow.cont _)); (dsimp only [Mine.TP]))
  k_with "compareOp Is" => (k_here; (with_reducible show wpAny _ _ (compareOp CmpOp.Is _ Value.none) _ _ _); k_dflt (first | (refine' is_eq ?zqk1 ?_; (case zqk1 => assumption); k_whole) | (refine' is_ne ?zqk1 ?_; (case zqk1 => assumption); k_whole)))
  k_with "compareOp IsNot" => (k_here; (with_reducible show wpAny _ _ (compareOp CmpOp.IsNot _ Value.none) _ _ _); k_dflt (first | (refine' isnot_eq ?zqk1 ?_; (case zqk1 => assumption); k_whole) | (refine' isnot_ne ?zqk1 ?_; (case zqk1 => assumption); k_whole)))
  exact trivial

structure NodesAt (Y : Lay) (nw : Led) (a : Addr) (ns : List (Addr × Addr)) (nodes : List PNode) : Prop where
  lst : ∃ c, (a, listOf (ns.map fun p => Value.ref p.1).toArray c) ∈ nw
  len : ns.length = nodes.length
  node : ∀ (i : Nat) p x, ns[i]? = some p → nodes[i]? = some x → NodeAt nw p x
  dis : (Y.d :: ns.map (·.2)).Nodup
  al : Y.al ≠ a
  sz : nodes.length < 2 ^ 21
theorem TabIn.new_nodes {h₀ h : Heap} {L : Addr} {l : Led} {t : Addr} {Y : Lay} {T : Tab} (N : News h₀ L h l) (hT : TabIn l t Y T) {a : Addr} {ns : List (Addr × Addr)} {nodes : List PNode} (hN : NodesAt Y l a ns nodes) {o : Obj} (ho : TabDict Y.al a T.size T.free o) :
    TabIn (put Y.d o l) t ⟨Y.d, Y.al, a, ns⟩ { T with nodes := nodes } ∧ Keeps ⟨Y.d, Y.al, Y.nl, []⟩ l (put Y.d o l) := by
  have ad := hT.addr N
  have kp0 : Keeps ⟨Y.d, Y.al, Y.nl, []⟩ l (put Y.d o l) := fun p hp hn => put_ne hp fun e => hn (by rw [e]; exact .head _)
  have kp : Keeps Y l (put Y.d o l) := fun p hp hn => put_ne hp fun e => hn (by rw [e]; exact .head _)
  obtain ⟨hi, ⟨o', hd, hdm⟩, ⟨ca, ha⟩, ⟨cn, hn⟩, hl, hnode, hdis, haln, h1, h2⟩ := hT
  obtain ⟨⟨c, hlst⟩, hlen, hnode', hdis', hal', hsz'⟩ := hN
  have hd0 := hd
  have nd : ∀ b ob, (b, ob) ∈ l → (∀ es n, ob ≠ dictOf es n) → (b, ob) ∈ put Y.d o l := fun b ob hb hne => put_ne hb fun e => by
    cases hd0
    exact hne _ _ (News.fn N hb (by rw [show b = Y.d from e]; exact hdm))
  refine ⟨⟨kp _ hi ad.1, ⟨o, ho, put_self⟩, ⟨ca, put_ne ha fun e => ad.2.2.1 e.symm⟩, ⟨c, nd _ _ hlst (fun es n e => by cases congrArg Obj.data e)⟩, hlen, fun i p x hp hx => ?_, hdis', hal', h1, hsz'⟩, kp0⟩
  obtain ⟨hin, hvx, ⟨kv, o2, k1, k2, k3⟩⟩ := hnode' i p x hp hx
  refine ⟨nd _ _ hin (fun es n e => by cases congrArg Obj.data e), hvx, kv, o2, k1, k2, put_ne k3 fun e => ?_⟩
  exact (List.nodup_cons.mp hdis').1 (List.mem_map.mpr ⟨p, List.mem_of_getElem? hp, e⟩)
noncomputable def LogIn (nw : Led) (d : Addr) (j : Int) : Prop := ∃ es n tk, (d, dictOf es n) ∈ nw ∧ getL (Str.ofString "log_nodes") es = some (some (.int j tk))
section
variable {w : World} {A : Around} {E : Value → Shared → Prop} {s : Shared} {h₀ : Heap} {L t : Addr} {m : Str → Option Value} {news : Led} {Y : Lay} {T : Tab}
set_option maxRecDepth 100000 in
set_option maxHeartbeats 8000000 in
theorem set_log_int {Q : Unit → Shared → Prop} (F : Fr h₀ L s.heap m) (X : (Mine.hd.heap_1 w.params).In h₀) (N : News h₀ L s.heap news) (hT : TabIn news t Y T) {j : Int} {tk : Tok}
    (h : ∀ h' tk' n', Fr h₀ L h' m → News h₀ L h' n' → TabIn n' t Y T → Keeps Y news n' → LogIn n' Y.d j → Q () { s with heap := h', toks := tk' }) :
    wpAny (model PySem.Challenge.rw_pq0681_01.row.prog w) A (setAttr (.ref t) (Str.ofString "log_nodes") (.int j tk)) Q E s := by
  have hT' := hT
  obtain ⟨hTi, ⟨oT, ⟨⟩, hTd⟩, _⟩ := hT
  have fill : PySem.Challenge.rw_pq0681_01.row.prog = PySem.Challenge.rw_pq0681_01.row.prog ∧ (Mine.hd.heap_1 w.params).In h₀ := by
    k_fill
    exact ⟨rfl, X⟩
  refine' set_dictP F X N (.of_news N hTi hTd) rfl ?k4 ?k5 ?k6 ?k7 ?k8 ?k9 hTd ?k10 ?_
  case k4 => k_is
  case k5 => k_is
  case k6 => k_is
  case k7 => k_is
  case k8 => k_get
  case k9 => k_put
  case k10 => exact (by decide : 10 ≤ 1000)
  intro h' F' N'
  have q := fun o ho => hT'.put_d (o := o) (z := T.size) (f := T.free) N ho
  exact h _ _ _ F' N' (q _ (TabDict.mk ..)).1 (q _ (TabDict.mk ..)).2 ⟨_, _, _, put_self, by k_get⟩
set_option maxRecDepth 100000 in
set_option maxHeartbeats 8000000 in
theorem get_log {Q : Value → Shared → Prop} {expr : Bool} (F : Fr h₀ L s.heap m) (X : (Mine.hd.heap_1 w.params).In h₀) (N : News h₀ L s.heap news) (hT : TabIn news t Y T) {j : Int} (hL : LogIn news Y.d j)
    (h : ∀ tk tk', Q (.int j tk) { s with toks := tk' }) :
    wpAny (model PySem.Challenge.rw_pq0681_01.row.prog w) A (getAttr (.ref t) (Str.ofString "log_nodes") expr) Q E s := by
  obtain ⟨hTi, _⟩ := hT
  obtain ⟨es, n, tk, hLd, hg⟩ := hL
  have fill : PySem.Challenge.rw_pq0681_01.row.prog = PySem.Challenge.rw_pq0681_01.row.prog ∧ (Mine.hd.heap_1 w.params).In h₀ := by
    k_fill
    exact ⟨rfl, X⟩
  refine' get_own F X (.of_news N hTi hLd) ?k4 ?k5 ?k6 ?k7 hg ?k9 ?_
  case k4 => k_is
  case k5 => k_is
  case k6 => k_is
  case k7 => k_is
  case k9 => k_handed
  exact h _ _
theorem set_nodes_at {Q : Unit → Shared → Prop} (F : Fr h₀ L s.heap m) (X : (Mine.hd.heap_1 w.params).In h₀) (N : News h₀ L s.heap news) (hT : TabIn news t Y T) {a : Addr} {ns : List (Addr × Addr)} {nodes : List PNode} (hN : NodesAt Y news a ns nodes)
    (h : ∀ h' tk' n' Y', Y' = ⟨Y.d, Y.al, a, ns⟩ → Fr h₀ L h' m → News h₀ L h' n' → TabIn n' t Y' { T with nodes := nodes } → Keeps ⟨Y.d, Y.al, Y.nl, []⟩ news n' → Q () { s with heap := h', toks := tk' }) :
    wpAny (model PySem.Challenge.rw_pq0681_01.row.prog w) A (setAttr (.ref t) (Str.ofString "nodes") (.ref a)) Q E s :=
  set_nodes F X N hT fun h' tk' o F' N' ho => h _ _ _ _ rfl F' N' (hT.new_nodes N hN ho).1 (hT.new_nodes N hN ho).2
theorem set_nodes_nil {Q : Unit → Shared → Prop} (F : Fr h₀ L s.heap m) (X : (Mine.hd.heap_1 w.params).In h₀) (N : News h₀ L s.heap news) (hT : TabIn news t Y T) {a : Addr} {c : Nat} (ha : (a, listOf #[] c) ∈ news) (hne : Y.al ≠ a)
    (h : ∀ h' tk' n' Y', Y' = ⟨Y.d, Y.al, a, []⟩ → Fr h₀ L h' m → News h₀ L h' n' → TabIn n' t Y' { T with nodes := [] } → Keeps ⟨Y.d, Y.al, Y.nl, []⟩ news n' → Q () { s with heap := h', toks := tk' }) :
    wpAny (model PySem.Challenge.rw_pq0681_01.row.prog w) A (setAttr (.ref t) (Str.ofString "nodes") (.ref a)) Q E s :=
  set_nodes_at (ns := []) (nodes := []) F X N hT ⟨⟨c, ha⟩, rfl, fun i p x hp => by simp at hp, List.nodup_cons.mpr ⟨List.not_mem_nil, List.nodup_nil⟩, hne, by decide⟩ h
end
theorem TabIn.al_lt {l : Led} {t x : Addr} {Y : Lay} {T : Tab} (hT : TabIn l t Y T) (h : ∀ p ∈ l, p.1 < x) : Y.al ≠ x := by
  obtain ⟨c, hm⟩ := hT.arr; exact Nat.ne_of_lt (h _ hm)
/-- n nodes made by a comprehension -/
theorem nodes_rest {prog : Program} {w : World} {A : Around} {h₀ : Heap} {L : Addr} {m : Str → Option Value} {env : Env} {elt : Expr} {x : Str} {scope : Scope} {cl : List (Str × Addr)} {s : Shared} {P : Nat → Value → Prop} {Fin : List Value → Led → Prop} {news : Led} {n : Nat}
    (turn : ∀ i v I oI C oC D m₂ ys nw h tk (E' : Value → Shared → Prop), P i v → LCg.NsObj oC m₂ → m₂ x = some v → Fr h₀ L h m → News h₀ L h ((I, oI) :: (C, oC) :: (D, LCg.lst ys) :: nw) → LCg.Off3 I C D nw → ((@Ne Nat I C) ∧ (@Ne Nat I D) ∧ (@Ne Nat C D)) →
      wpAny (model prog w) A (eval elt (compEnvC scope cl C env)) (LCg.CompEnd h₀ L m { s with heap := h, toks := tk } I oI C oC D (LCg.lst ys) (fun _ => True) (fun y news' => ∃ a d o, y = .ref a ∧ NodeDict .none .none (-1) o ∧ (a, instObj 177 d) ∈ news' ∧ (d, o) ∈ news' ∧ (∀ p ∈ nw, p ∈ news') ∧ (∀ p ∈ nw, p.1 < d))) E' { s with heap := h, toks := tk })
    (fin : ∀ (ns : List (Addr × Addr)) (nw : Led), ns.length = n → (∀ p ∈ ns, NodeAt nw p fresh) → (ns.map (·.2)).Nodup → (∀ p ∈ news, p ∈ nw) → (∀ p ∈ ns, ∀ q ∈ news, q.1 < p.2) → Fin (ns.map fun p => Value.ref p.1) nw) :
    LCg.CompRest prog w A h₀ L m env elt x scope cl s (fun _ => True) P Fin n 0 [] news := by
  have key : ∀ (j i : Nat) (ns : List (Addr × Addr)) (nw : Led), i + j = n → ns.length = i → (∀ p ∈ ns, NodeAt nw p fresh) → (ns.map (·.2)).Nodup → (∀ p ∈ news, p ∈ nw) → (∀ p ∈ ns, ∀ q ∈ news, q.1 < p.2) →
      LCg.CompRest prog w A h₀ L m env elt x scope cl s (fun _ => True) P Fin j i (ns.map fun p => Value.ref p.1) nw := by
    intro j
    induction j with
    | zero => intro i ns nw hi hl h1 h2 h3 h4; exact LCg.CompRest.zero (fin ns nw (by omega) h1 h2 h3 h4)
    | succ j ih =>
      intro i ns nw hi hl h1 h2 h3 h4
      refine LCg.CompRest.succ ?_
      intro v I oI C oC D m₂ h tk E' hv hC hx F N off ne
      refine wpAny_mono (turn i v I oI C oC D m₂ _ nw h tk E' hv hC hx F N off ne) (fun y s₂ hq => ?_) fun _ _ e => e
      obtain ⟨h', tk', nw', e, F', N', off', hS, a, d, o, rfl, hd, ha, ho, hsub, hlt⟩ := hq
      refine ⟨h', tk', nw', e, F', N', off', hS, ?_⟩
      have := ih (i + 1) (ns ++ [(a, d)]) nw' (by omega) (by rw [List.length_append, hl]; rfl) (fun p hp => ?_) ?_ (fun p hp => hsub p (h3 p hp)) (fun p hp q hq => ?_)
      · rw [List.map_append] at this; exact this
      · rcases List.mem_append.mp hp with hp | hp
        · obtain ⟨k1, k2, ⟨kv, o2, k3, k4, k5⟩⟩ := h1 p hp
          exact ⟨hsub _ k1, k2, ⟨kv, o2, k3, k4, hsub _ k5⟩⟩
        · rw [List.mem_singleton.mp hp]
          exact ⟨ha, rfl, ⟨.none, o, KV.none, hd, ho⟩⟩
      · rw [List.map_append, List.nodup_append]
        refine ⟨h2, List.nodup_cons.mpr ⟨List.not_mem_nil, List.nodup_nil⟩, fun b hb c hc e => ?_⟩
        obtain ⟨p, hp, rfl⟩ := List.mem_map.mp hb
        rw [List.mem_singleton.mp hc] at e
        obtain ⟨k1, k2, ⟨kv, o2, k3, k4, k5⟩⟩ := h1 p hp
        exact Nat.ne_of_lt (hlt _ k5) e
      · rcases List.mem_append.mp hp with hp | hp
        · exact h4 p hp q hq
        · rw [List.mem_singleton.mp hp]; exact hlt q (h3 q hq)
  exact key n 0 [] news (by omega) rfl (fun _ h => nomatch h) List.nodup_nil (fun _ h => h) (fun _ h => nomatch h)
theorem comp_end_node {h₀ : Heap} {L I C D x d : Addr} {m : Str → Option Value} {s₁ : Shared} {oI oC oD o : Obj} {h' : Heap} {tk : Nat} {nw : Led} (F : Fr h₀ L h' m) (N : News h₀ L h' ((x, instObj 177 d) :: (d, o) :: (I, oI) :: (C, oC) :: (D, oD) :: nw)) (ho : NodeDict .none .none (-1) o)
    (off : LCg.Off3 I C D nw) (l1 : I < d ∧ C < d ∧ D < d ∧ AllLt d nw) (l2 : d < x) :
    LCg.CompEnd h₀ L m s₁ I oI C oC D oD (fun _ => True) (fun y news' => ∃ a d o, y = .ref a ∧ NodeDict .none .none (-1) o ∧ (a, instObj 177 d) ∈ news' ∧ (d, o) ∈ news' ∧ (∀ p ∈ nw, p ∈ news') ∧ (∀ p ∈ nw, p.1 < d)) (.ref x) { s₁ with heap := h', toks := tk } := by
  refine LCg.CompEnd.intro F N ((x, instObj 177 d) :: (d, o) :: nw) (by intro p hp; simp only [List.mem_cons] at hp ⊢; rcases hp with h | h | h | h | h | h <;> simp [h]) (LCg.Off3.of fun p hp => ?_) trivial ⟨_, _, _, rfl, ho, .head _, .tail _ (.head _), fun p hp => .tail _ (.tail _ hp), tb_ltOf l1.2.2.2⟩
  obtain ⟨l11, l12, l13, l14⟩ := l1
  have z1 : x ≠ I := Ne.symm (Nat.ne_of_lt (Nat.lt_trans l11 l2))
  have z2 : x ≠ C := Ne.symm (Nat.ne_of_lt (Nat.lt_trans l12 l2))
  have z3 : x ≠ D := Ne.symm (Nat.ne_of_lt (Nat.lt_trans l13 l2))
  rcases List.mem_cons.mp hp with rfl | hp
  · exact ⟨z1, z2, z3⟩
  · rcases List.mem_cons.mp hp with rfl | hp
    · exact ⟨Ne.symm (Nat.ne_of_lt l11), Ne.symm (Nat.ne_of_lt l12), Ne.symm (Nat.ne_of_lt l13)⟩
    · exact off.mem p hp
theorem step_at {Y Y' : Lay} {l l2 n : Led} {a : Addr} {ns : List (Addr × Addr)} (k : Keeps ⟨Y.d, Y.al, Y.nl, []⟩ l2 n) (sub : ∀ p ∈ l, p ∈ l2) (new : ∀ p ∈ ns, ∀ q ∈ l, q.1 < p.2) (e : Y' = ⟨Y.d, Y.al, a, ns⟩) : Step ⟨Y.d, Y.al, Y.nl, []⟩ l Y' n := by
  subst e
  refine ⟨fun p hp hn => k p (sub p hp) hn, fun b hb => ?_⟩
  rcases List.mem_cons.mp hb with rfl | hb
  · exact .inl (.head _)
  · rcases List.mem_cons.mp hb with rfl | hb
    · exact .inl (.tail _ (.head _))
    · obtain ⟨p, hp, rfl⟩ := List.mem_map.mp hb
      exact .inr fun q hq _ => new p hp q hq
theorem NodesAt.made {t D : Addr} {Y : Lay} {T : Tab} {l nw : Led} {ns : List (Addr × Addr)} {n : Nat} (hT : TabIn l t Y T) (hsub : ∀ p ∈ l, p ∈ nw) (hnl : ns.length = n) (hnn : ∀ p ∈ ns, NodeAt nw p fresh) (hnd : (ns.map (·.2)).Nodup)
    (hlt : ∀ p ∈ ns, ∀ q ∈ l, q.1 < p.2) (o1 : LCg.Off1 D nw) (hn : n ≤ 1048576) : NodesAt Y ((D, LCg.lst (ns.map fun p => Value.ref p.1)) :: nw) D ns (List.replicate n fresh) := by
  have ofD : ∀ p ∈ nw, p.1 ≠ D := by
    clear hsub hnn
    induction nw with
    | nil => exact fun _ h => nomatch h
    | cons a r ih => intro p hp; rcases List.mem_cons.mp hp with rfl | hp
                     · exact o1.1
                     · exact ih o1.2 p hp
  refine ⟨⟨_, .head _⟩, by rw [List.length_replicate]; exact hnl, fun i p x hp hx => ?_, List.nodup_cons.mpr ⟨fun hm => ?_, hnd⟩, ?_, by rw [List.length_replicate]; omega⟩
  · have hx2 : x = fresh := (List.mem_replicate.mp (List.mem_of_getElem? hx)).2
    subst hx2
    obtain ⟨k1, k2, kv, o2, k3, k4, k5⟩ := hnn p (List.mem_of_getElem? hp)
    exact ⟨.tail _ k1, k2, kv, o2, k3, k4, .tail _ k5⟩
  · obtain ⟨p, hp, e⟩ := List.mem_map.mp hm
    obtain ⟨o, _, hd⟩ := hT.dict
    exact Nat.ne_of_lt (hlt p hp _ hd) e.symm
  · obtain ⟨c, ha⟩ := hT.arr
    exact ofD _ (hsub _ ha)
theorem wd_P17_26 : True := by
  k_with "setAttr ref" => (k_here; (with_reducible show wpAny _ _ (setAttr (Value.ref _) (PySem.Str.ofString "log_nodes") (Value.int _ _)) _ _ _); k_dflt (refine' set_log_int ?zqk1 ?zqk2 ?zqk3 ?zqk4 ?_; (case zqk1 => k_asm); (case zqk2 => k_asm); (case zqk3 => k_asm); (case zqk4 => k_asm); k_whole; intro h' tj' n' F' N' hT' hK' hLg'; (try dsimp only); (try k_sweep)))
  k_with "getAttr ref" => (k_here; (with_reducible show wpAny _ _ (getAttr (Value.ref _) (PySem.Str.ofString "log_nodes") _) _ _ _); k_dflt (refine' get_log ?zqk1 ?zqk2 ?zqk3 ?zqk4 ?zqk5 ?_; (case zqk1 => k_asm); (case zqk2 => k_asm); (case zqk3 => k_asm); (case zqk4 => k_asm); (case zqk5 => assumption); k_whole; intro tk' tj'; (try dsimp only)))
  k_with "setAttr ref" => (k_here; (with_reducible show wpAny _ _ (setAttr (Value.ref _) (PySem.Str.ofString "nodes") _) _ _ _); k_dflt (refine' set_nodes_nil ?zqk1 ?zqk2 ?zqk3 ?zqk4 ?zqk5 ?zqk6 ?_; (case zqk1 => k_asm); (case zqk2 => k_asm); (case zqk3 => k_asm); (case zqk4 => exact TabIn.mono (by assumption) fun p hp => .tail _ hp); (case zqk5 => exact .head _); (case zqk6 => exact TabIn.al_lt (by assumption) (by assumption)); k_whole; intro h' tj' n' Y' eY' F' N' hT' hK'; (try dsimp only); (try k_sweep)))
  k_with "call builtin:len" => (k_here; (with_reducible show wpAny _ _ (call (Value.builtin "len") [Value.ref _]) _ _ _); k_dflt (first | (refine' len_nodes ?zqk1 ?zqk2 ?_; (case zqk1 => k_asm); (case zqk2 => k_asm); k_whole; intro tk' tj'; (try dsimp only)) | (refine' len_arr ?zqk1 ?zqk2 ?_; (case zqk1 => k_asm); (case zqk2 => k_asm); k_whole; intro tk' tj'; (try dsimp only))))
  k_with "setAttr ref" => (k_here; (with_reducible show wpAny _ _ (setAttr (Value.ref _) (PySem.Str.ofString "nodes") _) _ _ _); k_dflt (refine' set_nodes_at ?zqk1 ?zqk2 ?zqk3 ?zqk4 ?zqk5 ?_; (case zqk1 => k_asm); (case zqk2 => k_asm); (case zqk3 => k_asm); (case zqk4 => assumption); (case zqk5 => assumption); k_whole; intro h' tj' n' Y' eY' F' N' hT' hK'; (try dsimp only); (try k_sweep)))
  exact trivial
theorem Step.wide {Y Y' : Lay} {l l' : Led} (h : Step ⟨Y.d, Y.al, Y.nl, []⟩ l Y' l') : Step Y l Y' l' := by
  have sub : ∀ a, a ∈ touch ⟨Y.d, Y.al, Y.nl, []⟩ → a ∈ touch Y := fun a ha => by
    rcases List.mem_cons.mp ha with rfl | ha
    · exact .head _
    · rcases List.mem_cons.mp ha with rfl | ha
      · exact .tail _ (.head _)
      · cases ha
  exact ⟨fun p hp hn => h.1 p hp fun q => hn (sub _ q), fun a ha => (h.2 a ha).elim (fun q => .inl (sub _ q)) fun q => .inr fun p hp hn => q p hp fun z => hn (sub _ z)⟩
noncomputable def MadeNew (t : Addr) (Y : Lay) (T' : Tab) : Led → Value → Led → Prop := fun n0 r n1 => r = .none ∧ ∃ Y', TabIn n1 t Y' T' ∧ Step ⟨Y.d, Y.al, Y.nl, []⟩ n0 Y' n1
theorem wd_P17_27 : True := by
  k_with "call ref" => (k_here; k_dflt ((refine' Spec.useI (ceil_log2_spec _ _ _ (by omega) (by omega)) ?zqk1 ?zqk2 ?zqk3 ?zqk4 ?zqk5 ?zqkK ?zqkP ?zqkd ?zqku ?_; (case zqk1 => k_asm); (case zqk2 => k_asm); (case zqk3 => k_asm); (case zqk4 => k_asm); (case zqk5 => k_asm); (case zqkK => first | exact rfl | assumption); (case zqkP => trivial); (case zqkd => walk_at "KD"); (case zqku => walk_at "KU"); k_whole; intro t1 h' tk' F' N'); (try dsimp only); (try k_sweep)))
  exact trivial
set_option maxRecDepth 100000 in
set_option maxHeartbeats 8000000 in
theorem makenodes_spec (w : World) (t : Addr) (Y : Lay) (T : Tab) (hz : Int) (htk : Tok) (hz2 : hz ≤ 1048576) : Spec w 342 [.ref t, .int hz htk] 10 (fun nw => TabIn nw t Y T) (MadeNew t Y (mkNodes T hz)) := by
  unfold Spec
  k_fill
  intro mean mg mb dp un gd cn cs a ccd cl outer A₀ base h₀ L m news s Q E B F X N TP hk hP hd hu hret
  w_top on
  w_on
  rename TabIn _ _ _ _ => hT
  have hM9 := haltAt "CompSrc"
  have hM9 := haltAt "eval ListComp"
  have hM9 := haltAt "CompEnd"
  by_cases hpos : 0 < hz
  · have hlog : 0 ≤ log2P (hz - 1).toNat + 1 ∧ log2P (hz - 1).toNat + 1 ≤ 20 := by
      unfold log2P
      split
      · omega
      · have : Nat.log2 (hz - 1).toNat < 20 := (Nat.log2_lt (by assumption)).mpr (by omega)
        omega
    obtain ⟨lg, elg⟩ : ∃ lg : Nat, log2P (hz - 1).toNat + 1 = lg := ⟨_, (Int.toNat_of_nonneg hlog.1).symm⟩
    have hcnt : nodeCnt hz = 2 ^ lg := by rw [nodeCnt, if_pos hpos, elg]; rfl
    have hpl : (2 : Nat) ^ lg ≤ 1048576 := by have : lg ≤ 20 := by omega
                                              exact Nat.le_trans (Nat.pow_le_pow_right (by decide) this) (by decide)
    have hl1 := hlog.1
    have hl2 := hlog.2
    k_steps
    constructor
    refine LCg.ListComp_U (F₀ := by k_asm) (by rfl) (by decide) (by rfl) (by decide) (by rfl) ?_
    k_steps
    constructor
    (rename IsRange _ _ _ _ _ _ _ _ => hR)
    (rename Fr _ _ _ _ => lF); (rename News _ _ _ _ => lN)
    have e8 : (1 * 2 ^ (log2P (hz - 1).toNat + 1).toNat : Int) = ((nodeCnt hz : Nat) : Int) := by rw [hcnt, elg, Int.toNat_natCast, Int.one_mul, Int.natCast_pow]; rfl
    rw [e8] at hR
    have hcb : nodeCnt hz ≤ 1048576 := by rw [hcnt]; exact hpl
    refine LCg.CompSrc.range (n := nodeCnt hz) rfl lF lN hR (small_one (by omega) (by omega) (by omega) (by omega)) (by rw [rangeSize_one]; split <;> omega) (by rw [sizeLine_eq]; omega) fun g => nodes_rest ?turn ?fin
    case turn =>
      clear lF lN
      intro i v I oI C oC D m₂ ys nw h tk E' hv hC hx F N off ne
      obtain ⟨t9', hv9'⟩ := hv; subst hv9'
      have offm := off.mem
      k_steps
      constructor
      exact comp_end_node (by assumption) (by assumption) (NodeDict.mk ..) off (by assumption) (by assumption)
    case fin =>
      clear lF lN
      intro ns nw hnl hnn hnd hsub hlt
      intro D h tk F N o1
      (rename TabIn _ _ _ _ => hT1)
      have hT2 : TabIn ((D, LCg.lst (ns.map fun p => Value.ref p.1)) :: nw) t _ _ := hT1.mono fun p hp => .tail _ (hsub p hp)
      have hNA : NodesAt _ ((D, LCg.lst (ns.map fun p => Value.ref p.1)) :: nw) D ns (List.replicate (nodeCnt hz) fresh) := NodesAt.made hT1 hsub hnl hnn hnd hlt o1 hcb
      clear hT1
      k_steps
      exact hret _ _ _ _ (by k_asm) (by k_asm) ⟨rfl, _, (by rw [mkNodes]; have h9 : TabIn _ t _ _ := (by assumption); rw [List.length_replicate] at h9; exact h9), .trans (.trans (step_at (ns := []) (by assumption) (fun p hp => .tail _ hp) (fun _ h => nomatch h) (by assumption)) (.trans (.of (by assumption)) (.of (by assumption)))) (.trans (Step.wide (step_at (by assumption) (fun p hp => .tail _ (hsub p hp)) hlt (by assumption))) (.of (by assumption)))⟩
  · have hcnt : nodeCnt hz = 0 := by rw [nodeCnt, if_neg hpos]
    have emk : mkNodes T hz = { T with nodes := [], free := 0 } := by rw [mkNodes, hcnt]; rfl
    rw [emk] at hret
    k_steps
    exact hret _ _ _ _ (by k_asm) (by k_asm) ⟨rfl, _, (by assumption), .trans (step_at (ns := []) (by assumption) (fun p hp => .tail _ hp) (fun _ h => nomatch h) (by assumption)) (.trans (.of (by assumption)) (.of (by assumption)))⟩

end
section
theorem wd_P18_0 : True := by
  k_with_none
  exact trivial
theorem wd_P18_28 : True := by
  k_with "KD" => first | exact dlt (by assumption) (by first | decide | omega) | exact dlt1 (by assumption) (by first | decide | omega) | exact dlt0 (by assumption) | ktr_room
  k_with "KU" => first | exact ult (by assumption) (by first | decide | omega) | ktr_units
  k_with "ENTER" => (refine' enter_ ?zqk1 ?zqk2 ?zqk3 ?zqk4 ?zqk5 ?zqkA ?zqkF ?zqkK ?zqk6 ?zqk7 ?zqk8 ?zqk9 ?zqkB ?_ ?zqc2 ?zqc3 ?zqc4 ?zqc5; (case zqkA => exact rfl); (case zqkF => exact rfl); (case zqkK => first | exact rfl | assumption); (case zqk1 => k_asm); (case zqk2 => k_asm); (case zqk3 => k_asm); (case zqk4 => k_asm); (case zqk5 => k_asm); (case zqk6 => k_is); (case zqk7 => k_is); (case zqk8 => walk_at "KD"); (case zqk9 => first | exact BindsTo.of_eq rfl | exact binds_K (by k_in) rfl (by k_is) rfl rfl rfl | fail "ENTER: no rule for these arguments"); (case zqc5 => decide); (case zqkB => exact locs rfl); (case zqc2 => exact rfl); (case zqc3 => exact rfl); (case zqc4 => exact rfl); k_whole; intro g' L' h' tk' FG' mm F' N' B' X' T' qk ek)
  k_with "call ref" => (k_here; k_dflt (first | (refine' call_cls0 ?zqk1 ?zqk2 ?zqk3 ?zqk4 ?zqk5 ?_; (case zqk1 => k_asm); (case zqk2 => k_asm); (case zqk3 => k_asm); (case zqk4 => k_is); (case zqk5 => k_is); k_whole; intro x' d' h' F' N' l1 l2; (try k_lt l1); (try k_lt2 l2); (try k_sweep)) | (refine' call_cls ?zqk1 ?zqk2 ?zqk3 ?zqk4 ?zqk5 ?zqk6 ?_; (case zqk1 => k_asm); (case zqk2 => k_asm); (case zqk3 => k_asm); (case zqk4 => k_is); (case zqk5 => k_is); (case zqk6 => k_is); k_whole; intro x' d' h' F' N' l1 l2; (try k_lt l1); (try k_lt2 l2); (try k_sweep); walk_at "ENTER") | (refine' call_meth ?zqk1 ?zqk2 ?_; (case zqk1 => k_asm); (case zqk2 => k_mem); k_whole; walk_at "ENTER") | (refine wpAny_call ?_; walk_at "ENTER")))
  k_with "call builtin:len" => (k_here; (with_reducible show wpAny _ _ (call (Value.builtin "len") [Value.ref _]) _ _ _); k_dflt (refine' kst_len ?zqk1 ?zqk2 ?zqk3 ?zqk4 ?_; (case zqk1 => k_asm); (case zqk2 => k_mem); (case zqk3 => first | assumption | exact rfl); (case zqk4 => omega); k_whole))
  k_with "WhileStep2" => (first | (with_reducible show WhileStep2 _ _ _ _ _ _ (Flow.ret _) _) | (with_reducible show WhileStep2 _ _ _ _ _ _ Flow.brk _)); (dsimp only [WhileStep2])
  k_with "execs cons" => (k_here; refine wpAny_execs_cons (foldQ ?_); intro qs)
  k_with "storeName" => (k_here; (try dsimp only); k_dflt (refine' store_ ?zqF ?zqN ?_ ?zqa ?zqb; (case zqF => k_asm); (case zqN => k_asm); (case zqa => first | exact rfl | assumption); (case zqb => rfl); k_whole; intro h' tk' mm F' N'; (try k_sweep)))
  k_with "exec While Compare cons nil" => refine Halt.go ?_
  k_with "pyIter ref" => refine Halt.go ?_
  k_with "call type:enumerate" => refine Halt.go ?_
  k_with "KswEnd" => refine Halt.at (k := "KswEnd") (by assumption) ?_
  k_with "subscriptTail" => refine Halt.at (k := "subscriptTail") (by assumption) ?_
  k_with "eval ListComp" => refine Halt.at (k := "eval ListComp") (by assumption) ?_
  k_with "CompSrc" => refine Halt.at (k := "CompSrc") (by assumption) ?_
  k_with "CompEnd" => refine Halt.at (k := "CompEnd") (by assumption) ?_
  k_with "call ref" => refine Halt.at (k := "call ref") (by assumption) ?_
  k_with "call builtin:sorted" => refine Halt.at (k := "call builtin:sorted") (by assumption) ?_
  k_with "call builtin:repr" => refine Halt.at (k := "call builtin:repr") (by assumption) ?_
  k_with "unpackItems ref" => refine Halt.at (k := "unpackItems ref") (by assumption) ?_
  k_with "compareOp Eq ref ref" => refine Halt.at (k := "compareOp Eq ref ref") (by assumption) ?_
  k_with "call type:str" => refine Halt.at (k := "call type:str") (by assumption) ?_
  k_with "K4" => ((case zqk1 => k_asm); (case zqk2 => k_asm); (case zqk3 => k_asm); (case zqk4 => k_asm))
  k_with "K56" => ((case zqk5 => first | assumption | (with_unfolding_all assumption)); (case zqk6 => first | assumption | (with_unfolding_all assumption)))
  k_with "KN" => (k_whole; intro h' tj' n' F' N' hT' hK'; (try dsimp only); (try k_sweep))
  k_with "getAttr ref" => (k_here; (with_reducible show wpAny _ _ (getAttr (Value.ref _) (PySem.Str.ofString "free") _) _ _ _); k_dflt (refine' get_free ?zqk1 ?zqk2 ?zqk3 ?zqk4 ?_; walk_at "K4"; k_whole; intro tk' tj'; (try dsimp only)))
  k_with "getAttr ref" => (k_here; (with_reducible show wpAny _ _ (getAttr (Value.ref _) (PySem.Str.ofString "size") _) _ _ _); k_dflt (refine' get_size ?zqk1 ?zqk2 ?zqk3 ?zqk4 ?_; walk_at "K4"; k_whole; intro tk' tj'; (try dsimp only)))
  k_with "getAttr ref" => (k_here; (with_reducible show wpAny _ _ (getAttr (Value.ref _) (PySem.Str.ofString "array") _) _ _ _); k_dflt (refine' get_array ?zqk1 ?zqk2 ?zqk3 ?zqk4 ?_; walk_at "K4"; k_whole; intro tj'; (try dsimp only)))
  k_with "getAttr ref" => (k_here; (with_reducible show wpAny _ _ (getAttr (Value.ref _) (PySem.Str.ofString "nodes") _) _ _ _); k_dflt (refine' get_nodes ?zqk1 ?zqk2 ?zqk3 ?zqk4 ?_; walk_at "K4"; k_whole; intro tj'; (try dsimp only)))
  k_with "getAttr ref" => (k_here; (with_reducible show wpAny _ _ (getAttr (Value.ref _) (PySem.Str.ofString "key") _) _ _ _); k_dflt (first | (refine' get_key_none ?zqk1 ?zqk2 ?zqk3 ?zqk4 ?zqk5 ?zqk6 ?zqk7 ?_; walk_at "K4"; walk_at "K56"; (case zqk7 => assumption); k_whole; intro tj'; (try dsimp only)) | (refine' get_key_some ?zqk1 ?zqk2 ?zqk3 ?zqk4 ?zqk5 ?zqk6 ?zqk7 ?_; walk_at "K4"; walk_at "K56"; (case zqk7 => assumption); k_whole; intro kv' tj' hkv'; (try dsimp only)) | (refine' get_key_any ?zqk1 ?zqk2 ?zqk3 ?zqk4 ?zqk5 ?zqk6 ?_; walk_at "K4"; walk_at "K56"; k_whole; intro kv' tj' hkv'; (try dsimp only))))
  k_with "getAttr ref" => (k_here; (with_reducible show wpAny _ _ (getAttr (Value.ref _) (PySem.Str.ofString "value") _) _ _ _); k_dflt (refine' get_value ?zqk1 ?zqk2 ?zqk3 ?zqk4 ?zqk5 ?zqk6 ?_; walk_at "K4"; walk_at "K56"; k_whole; intro tj'; (try dsimp only)))
  k_with "getAttr ref" => (k_here; (with_reducible show wpAny _ _ (getAttr (Value.ref _) (PySem.Str.ofString "next") _) _ _ _); k_dflt (refine' get_next ?zqk1 ?zqk2 ?zqk3 ?zqk4 ?zqk5 ?zqk6 ?_; walk_at "K4"; walk_at "K56"; k_whole; intro tk' tj'; (try dsimp only)))
  k_with "setAttr ref" => (k_here; (with_reducible show wpAny _ _ (setAttr (Value.ref _) (PySem.Str.ofString "free") _) _ _ _); k_dflt (refine' set_free ?zqk1 ?zqk2 ?zqk3 ?zqk4 ?_; walk_at "K4"; walk_at "KN"))
  k_with "setAttr ref" => (k_here; (with_reducible show wpAny _ _ (setAttr (Value.ref _) (PySem.Str.ofString "size") _) _ _ _); k_dflt (refine' set_size ?zqk1 ?zqk2 ?zqk3 ?zqk4 ?_; walk_at "K4"; walk_at "KN"))
  k_with "setAttr ref" => (k_here; (with_reducible show wpAny _ _ (setAttr (Value.ref _) (PySem.Str.ofString "flags") _) _ _ _); k_dflt (refine' set_flags ?zqk1 ?zqk2 ?zqk3 ?zqk4 ?_; walk_at "K4"; walk_at "KN"))
  k_with "setAttr ref" => (k_here; (with_reducible show wpAny _ _ (setAttr (Value.ref _) (PySem.Str.ofString "log_nodes") _) _ _ _); k_dflt (refine' set_log_nodes ?zqk1 ?zqk2 ?zqk3 ?zqk4 ?_; walk_at "K4"; walk_at "KN"))
  k_with "setAttr ref" => (k_here; (with_reducible show wpAny _ _ (setAttr (Value.ref _) (PySem.Str.ofString "key") _) _ _ _); k_dflt (refine' set_key ?zqk1 ?zqk2 ?zqk3 ?zqk4 ?zqk5 ?zqk6 ?zqk7 ?_; walk_at "K4"; walk_at "K56"; (case zqk7 => first | assumption | exact KV.none); walk_at "KN"))
  k_with "setAttr ref" => (k_here; (with_reducible show wpAny _ _ (setAttr (Value.ref _) (PySem.Str.ofString "value") _) _ _ _); k_dflt (refine' set_value ?zqk1 ?zqk2 ?zqk3 ?zqk4 ?zqk5 ?zqk6 ?zqk7 ?_; walk_at "K4"; walk_at "K56"; (case zqk7 => first | assumption | rfl); walk_at "KN"))
  k_with "setAttr ref" => (k_here; (with_reducible show wpAny _ _ (setAttr (Value.ref _) (PySem.Str.ofString "next") _) _ _ _); k_dflt (refine' set_next ?zqk1 ?zqk2 ?zqk3 ?zqk4 ?zqk5 ?zqk6 ?_; walk_at "K4"; walk_at "K56"; walk_at "KN"))
  k_with "getMethod ref" => (k_here; (with_reducible show wpAny _ _ (getMethod (Value.ref _) _ _) _ _ _); k_dflt (refine' tab_meth ?zqk1 ?zqk2 ?zqk3 ?zqk4 ?zqk5 ?zqk6 ?zqk7 ?zqk8 ?_; walk_at "K4"; (case zqk5 => k_is); (case zqk6 => k_is); (case zqk7 => k_is); (case zqk8 => decide +kernel); k_whole))
  k_with "call builtin:len" => (k_here; (with_reducible show wpAny _ _ (call (Value.builtin "len") [Value.ref _]) _ _ _); k_dflt (first | (refine' len_nodes ?zqk3 ?zqk4 ?_; (case zqk3 => k_asm); (case zqk4 => k_asm); k_whole; intro tk' tj'; (try dsimp only)) | (refine' len_arr ?zqk3 ?zqk4 ?_; (case zqk3 => k_asm); (case zqk4 => k_asm); k_whole; intro tk' tj'; (try dsimp only))))
  k_with "subscriptTail" => (k_here; (with_reducible show wpAny _ _ (subscriptTail _ _ (Value.ref _) (Value.int _ _)) _ _ _); k_dflt (first | (refine' item_node ?zqk3 ?zqk4 ?zqk5 ?zqk6 ?_ ?zqk7; (case zqk3 => k_asm); (case zqk4 => k_asm); (case zqk5 => assumption); (case zqk6 => first | assumption | omega); (case zqk7 => with_unfolding_all rfl); k_whole) | (refine' item_arr ?zqk3 ?zqk4 ?zqk5 ?zqk6 ?_ ?zqk7; (case zqk3 => k_asm); (case zqk4 => k_asm); (case zqk5 => assumption); (case zqk6 => first | assumption | omega); (case zqk7 => with_unfolding_all rfl); k_whole)))
  k_with "setItem ref int" => (k_here; (with_reducible show wpAny _ _ (setItem (Value.ref _) (Value.int _ _) _) _ _ _); k_dflt (refine' set_arr ?zqk1 ?zqk3 ?zqk4 ?zqk5 ?zqk6 ?_; (case zqk1 => k_asm); (case zqk3 => k_asm); (case zqk4 => k_asm); (case zqk5 => omega); (case zqk6 => (try dsimp only); omega); k_whole; intro h' n' F' N' hT' hK'; (try dsimp only); (try k_sweep)))
  k_with "call builtin:list.append" => (k_here; (with_reducible show wpAny _ _ (call (Value.builtin _) [Value.ref _, _]) _ _ _); k_dflt (refine' app_arr ?zqk1 ?zqk3 ?zqk4 ?zqk5 ?_; (case zqk1 => k_asm); (case zqk3 => k_asm); (case zqk4 => k_asm); (case zqk5 => (try dsimp only); omega); k_whole; intro h' n' F' N' hT' hK'; (try dsimp only); (try k_sweep)))
  k_with "compareOp Is" => (k_here; (with_reducible show wpAny _ _ (compareOp CmpOp.Is _ Value.none) _ _ _); k_dflt (refine' kv_isnone ?zqk1 ?_; (case zqk1 => assumption); k_whole))
  k_with "exec For Name Name cons nil" => (k_here; (rename Fr _ _ _ _ => lF'); (with_unfolding_all refine' For_invVF lF' ?zqk1 ?zqk2 ?_; (case zqk1 => exact rfl); (case zqk2 => exact rfl); k_whole))
  k_with "exec For Name Call cons nil" => (k_here; (rename Fr _ _ _ _ => lF'); (with_unfolding_all refine' For_invVF lF' ?zqk1 ?zqk2 ?_; (case zqk1 => exact rfl); (case zqk2 => exact rfl); k_whole))
  k_with "exec For Name Attribute cons nil" => (k_here; (rename Fr _ _ _ _ => lF'); (with_unfolding_all refine' For_invVF lF' ?zqk1 ?zqk2 ?_; (case zqk1 => exact rfl); (case zqk2 => exact rfl); k_whole))
  k_with "TP" => ((first | (with_reducible show Mine.TP _ _ _ _ _ _ (Flow.ret _) _) | (with_reducible show Mine.TP _ _ _ _ _ _ Flow.brk _) | (with_reducible show Mine.TP _ _ _ _ _ _ Flow.next _) | (with_reducible show Mine.TP _ _ _ _ _ _ Flow.cont _)); (dsimp only [Mine.TP]))
  k_with "compareOp Is" => (k_here; (with_reducible show wpAny _ _ (compareOp CmpOp.Is _ Value.none) _ _ _); k_dflt (first | (refine' is_eq ?zqk1 ?_; (case zqk1 => assumption); k_whole) | (refine' is_ne ?zqk1 ?_; (case zqk1 => assumption); k_whole)))
  k_with "compareOp IsNot" => (k_here; (with_reducible show wpAny _ _ (compareOp CmpOp.IsNot _ Value.none) _ _ _); k_dflt (first | (refine' isnot_eq ?zqk1 ?_; (case zqk1 => assumption); k_whole) | (refine' isnot_ne ?zqk1 ?_; (case zqk1 => assumption); k_whole)))
  exact trivial

noncomputable def NKS (w : World) (nk : NK) (c : Nat) : Prop := ∀ (t : Addr) (Y : Lay) (T : Tab) (kv : Value) (k : PKey) (v : Value) (T' : Tab), KV kv (some k) → KeyOk k → handedIn v = true → nk T k v = some T' → Spec w 294 [.ref t, kv, v, .none] c (fun nw => TabIn nw t Y T) (TabNew t Y T')
theorem wd_P18_29 : True := by
  k_with "call ref" => (k_here; k_dflt ((refine' Spec.useI (arrix_spec _ (by assumption)) ?zqk1 ?zqk2 ?zqk3 ?zqk4 ?zqk5 ?zqkK ?zqkP ?zqkd ?zqku ?_; (case zqk1 => k_asm); (case zqk2 => k_asm); (case zqk3 => k_asm); (case zqk4 => k_asm); (case zqk5 => k_asm); (case zqkK => first | exact rfl | assumption); (case zqkP => trivial); (case zqkd => walk_at "KD"); (case zqku => walk_at "KU"); k_whole; intro t1 h' tk' F' N'); (try dsimp only); (try k_sweep)))
  k_with "call builtin:len" => (k_here; (with_reducible show wpAny _ _ (call (Value.builtin "len") [Value.ref _]) _ _ _); k_dflt (first | (refine' len_nodes ?zqk1 ?zqk2 ?_; (case zqk1 => k_asm); (case zqk2 => k_asm); k_whole; intro tk' tj'; (try dsimp only)) | (refine' len_arr ?zqk1 ?zqk2 ?_; (case zqk1 => k_asm); (case zqk2 => k_asm); k_whole; intro tk' tj'; (try dsimp only))))
  exact trivial
section
theorem wd_P18_30 : True := by
  k_with "call ref" => (k_here; k_dflt ((refine' Spec.use ((by assumption : NKS _ _ _) _ _ _ _ _ _ _ (by assumption) (by assumption) (by assumption) (by assumption)) ?zqk1 ?zqk2 ?zqk3 ?zqk4 ?zqk5 ?zqkK ?zqkP ?zqkd ?zqku ?_; (case zqk1 => k_asm); (case zqk2 => k_asm); (case zqk3 => k_asm); (case zqk4 => k_asm); (case zqk5 => k_asm); (case zqkK => first | exact rfl | assumption); (case zqkP => assumption); (case zqkd => walk_at "KD"); (case zqku => walk_at "KU"); k_whole; intro r' h' tk' n' F' N' R'); (obtain ⟨e1, Y9, hT9, hS9⟩ := R'; subst e1); (try dsimp only); (try k_sweep)))
  exact trivial
set_option maxRecDepth 100000 in
set_option maxHeartbeats 8000000 in
theorem putback_spec (w : World) (nk : NK) (c : Nat) (S : NKS w nk c) (t : Addr) (Y : Lay) (T : Tab) (kv : Value) (k : PKey) (v : Value) (T' : Tab) (hkv : KV kv (some k)) (ok : KeyOk k) (hv : handedIn v = true) (h : putBackW nk T k v = some T') : Spec w 337 [.ref t, kv, v, .none] (c + 12) (fun nw => TabIn nw t Y T) (TabNew t Y T') := by
  unfold Spec
  k_fill
  intro mean mg mb dp un gd cn cs a ccd cl outer A₀ base h₀ L m news s Q E B F X N TP hk hP hd hu hret
  w_top on
  w_on
  rename TabIn _ _ _ _ => hT
  have hasz := hT.asz
  have hM9 := haltAt "JOIN"
  k_with "isTrue Compare" => ((have hJ9 : HaltAt "JOIN" := by assumption); clear hJ9; (k_dflt ((with_reducible show wpAny _ _ (isTrue (Expr.Compare _ [_, _] _ _) _ _) _ _ _); (fail_if_success (with_reducible show wpAny _ _ _ (JoinB _ _) _ _)); (refine join_test (decide (1 ≤ (arrIx k) ∧ (arrIx k) ≤ (T.arr.length : Int))) ?_ ?_); (focus (k_steps; (all_goals first | exact ⟨join_and_t (by omega) (by omega), _, rfl⟩ | exact ⟨join_and_f (by omega), _, rfl⟩ | exact ⟨by rw [decide_eq_decide]; omega, _, rfl⟩))); (intro tj9; (try dsimp only); (try rw [hb]))) ))
  cases hb : decide (1 ≤ arrIx k ∧ arrIx k ≤ (T.arr.length : Int)) with
  | true =>
    have hb' := of_decide_eq_true hb
    rw [putBackW, if_pos hb'] at h
    obtain rfl := Option.some.inj h
    k_steps
    exact hret _ _ _ _ (by k_asm) (by k_asm) ⟨rfl, _, by assumption, .of (by assumption)⟩
  | false =>
    rw [putBackW, if_neg (of_decide_eq_false hb)] at h
    k_steps
    exact hret _ _ _ _ (by k_asm) (by k_asm) ⟨rfl, _, by assumption, by assumption⟩
set_option maxRecDepth 100000 in
set_option maxHeartbeats 8000000 in
theorem putagain_spec (w : World) (nk : NK) (c : Nat) (S : NKS w nk c) (t : Addr) (Y : Lay) (T : Tab) (kv : Value) (k : PKey) (v : Value) (T' : Tab) (hkv : KV kv (some k)) (ok : KeyOk k) (hv : handedIn v = true) (h : putBackW nk T k v = some T') : Spec w 301 [.ref t, kv, v, .none] (c + 12) (fun nw => TabIn nw t Y T) (TabNew t Y T') := by
  unfold Spec
  k_fill
  intro mean mg mb dp un gd cn cs a ccd cl outer A₀ base h₀ L m news s Q E B F X N TP hk hP hd hu hret
  w_top on
  w_on
  rename TabIn _ _ _ _ => hT
  have hasz := hT.asz
  have hM9 := haltAt "JOIN"
  k_with "isTrue Compare" => ((have hJ9 : HaltAt "JOIN" := by assumption); clear hJ9; (k_dflt ((with_reducible show wpAny _ _ (isTrue (Expr.Compare _ [_, _] _ _) _ _) _ _ _); (fail_if_success (with_reducible show wpAny _ _ _ (JoinB _ _) _ _)); (refine join_test (decide (1 ≤ (arrIx k) ∧ (arrIx k) ≤ (T.arr.length : Int))) ?_ ?_); (focus (k_steps; (all_goals first | exact ⟨join_and_t (by omega) (by omega), _, rfl⟩ | exact ⟨join_and_f (by omega), _, rfl⟩ | exact ⟨by rw [decide_eq_decide]; omega, _, rfl⟩))); (intro tj9; (try dsimp only); (try rw [hb]))) ))
  cases hb : decide (1 ≤ arrIx k ∧ arrIx k ≤ (T.arr.length : Int)) with
  | true =>
    have hb' := of_decide_eq_true hb
    rw [putBackW, if_pos hb'] at h
    obtain rfl := Option.some.inj h
    k_steps
    exact hret _ _ _ _ (by k_asm) (by k_asm) ⟨rfl, _, by assumption, .of (by assumption)⟩
  | false =>
    rw [putBackW, if_neg (of_decide_eq_false hb)] at h
    k_steps
    exact hret _ _ _ _ (by k_asm) (by k_asm) ⟨rfl, _, by assumption, by assumption⟩
end

end
section
theorem wd_P19_0 : True := by
  k_with_none
  exact trivial
theorem wd_P19_31 : True := by
  k_with "KD" => first | exact dlt (by assumption) (by first | decide | omega) | exact dlt1 (by assumption) (by first | decide | omega) | exact dlt0 (by assumption) | ktr_room
  k_with "KU" => first | exact ult (by assumption) (by first | decide | omega) | ktr_units
  k_with "ENTER" => (refine' enter_ ?zqk1 ?zqk2 ?zqk3 ?zqk4 ?zqk5 ?zqkA ?zqkF ?zqkK ?zqk6 ?zqk7 ?zqk8 ?zqk9 ?zqkB ?_ ?zqc2 ?zqc3 ?zqc4 ?zqc5; (case zqkA => exact rfl); (case zqkF => exact rfl); (case zqkK => first | exact rfl | assumption); (case zqk1 => k_asm); (case zqk2 => k_asm); (case zqk3 => k_asm); (case zqk4 => k_asm); (case zqk5 => k_asm); (case zqk6 => k_is); (case zqk7 => k_is); (case zqk8 => walk_at "KD"); (case zqk9 => first | exact BindsTo.of_eq rfl | exact binds_K (by k_in) rfl (by k_is) rfl rfl rfl | fail "ENTER: no rule for these arguments"); (case zqc5 => decide); (case zqkB => exact locs rfl); (case zqc2 => exact rfl); (case zqc3 => exact rfl); (case zqc4 => exact rfl); k_whole; intro g' L' h' tk' FG' mm F' N' B' X' T' qk ek)
  k_with "call ref" => (k_here; k_dflt (first | (refine' call_cls0 ?zqk1 ?zqk2 ?zqk3 ?zqk4 ?zqk5 ?_; (case zqk1 => k_asm); (case zqk2 => k_asm); (case zqk3 => k_asm); (case zqk4 => k_is); (case zqk5 => k_is); k_whole; intro x' d' h' F' N' l1 l2; (try k_lt l1); (try k_lt2 l2); (try k_sweep)) | (refine' call_cls ?zqk1 ?zqk2 ?zqk3 ?zqk4 ?zqk5 ?zqk6 ?_; (case zqk1 => k_asm); (case zqk2 => k_asm); (case zqk3 => k_asm); (case zqk4 => k_is); (case zqk5 => k_is); (case zqk6 => k_is); k_whole; intro x' d' h' F' N' l1 l2; (try k_lt l1); (try k_lt2 l2); (try k_sweep); walk_at "ENTER") | (refine' call_meth ?zqk1 ?zqk2 ?_; (case zqk1 => k_asm); (case zqk2 => k_mem); k_whole; walk_at "ENTER") | (refine wpAny_call ?_; walk_at "ENTER")))
  k_with "call builtin:len" => (k_here; (with_reducible show wpAny _ _ (call (Value.builtin "len") [Value.ref _]) _ _ _); k_dflt (refine' kst_len ?zqk1 ?zqk2 ?zqk3 ?zqk4 ?_; (case zqk1 => k_asm); (case zqk2 => k_mem); (case zqk3 => first | assumption | exact rfl); (case zqk4 => omega); k_whole))
  k_with "WhileStep2" => (first | (with_reducible show WhileStep2 _ _ _ _ _ _ (Flow.ret _) _) | (with_reducible show WhileStep2 _ _ _ _ _ _ Flow.brk _)); (dsimp only [WhileStep2])
  k_with "execs cons" => (k_here; refine wpAny_execs_cons (foldQ ?_); intro qs)
  k_with "storeName" => (k_here; (try dsimp only); k_dflt (refine' store_ ?zqF ?zqN ?_ ?zqa ?zqb; (case zqF => k_asm); (case zqN => k_asm); (case zqa => first | exact rfl | assumption); (case zqb => rfl); k_whole; intro h' tk' mm F' N'; (try k_sweep)))
  k_with "exec While Compare cons nil" => refine Halt.go ?_
  k_with "pyIter ref" => refine Halt.go ?_
  k_with "call type:enumerate" => refine Halt.go ?_
  k_with "KswEnd" => refine Halt.at (k := "KswEnd") (by assumption) ?_
  k_with "subscriptTail" => refine Halt.at (k := "subscriptTail") (by assumption) ?_
  k_with "eval ListComp" => refine Halt.at (k := "eval ListComp") (by assumption) ?_
  k_with "CompSrc" => refine Halt.at (k := "CompSrc") (by assumption) ?_
  k_with "CompEnd" => refine Halt.at (k := "CompEnd") (by assumption) ?_
  k_with "call ref" => refine Halt.at (k := "call ref") (by assumption) ?_
  k_with "call builtin:sorted" => refine Halt.at (k := "call builtin:sorted") (by assumption) ?_
  k_with "call builtin:repr" => refine Halt.at (k := "call builtin:repr") (by assumption) ?_
  k_with "unpackItems ref" => refine Halt.at (k := "unpackItems ref") (by assumption) ?_
  k_with "compareOp Eq ref ref" => refine Halt.at (k := "compareOp Eq ref ref") (by assumption) ?_
  k_with "call type:str" => refine Halt.at (k := "call type:str") (by assumption) ?_
  k_with "K4" => ((case zqk1 => k_asm); (case zqk2 => k_asm); (case zqk3 => k_asm); (case zqk4 => k_asm))
  k_with "K56" => ((case zqk5 => first | assumption | (with_unfolding_all assumption)); (case zqk6 => first | assumption | (with_unfolding_all assumption)))
  k_with "KN" => (k_whole; intro h' tj' n' F' N' hT' hK'; (try dsimp only); (try k_sweep))
  k_with "getAttr ref" => (k_here; (with_reducible show wpAny _ _ (getAttr (Value.ref _) (PySem.Str.ofString "free") _) _ _ _); k_dflt (refine' get_free ?zqk1 ?zqk2 ?zqk3 ?zqk4 ?_; walk_at "K4"; k_whole; intro tk' tj'; (try dsimp only)))
  k_with "getAttr ref" => (k_here; (with_reducible show wpAny _ _ (getAttr (Value.ref _) (PySem.Str.ofString "size") _) _ _ _); k_dflt (refine' get_size ?zqk1 ?zqk2 ?zqk3 ?zqk4 ?_; walk_at "K4"; k_whole; intro tk' tj'; (try dsimp only)))
  k_with "getAttr ref" => (k_here; (with_reducible show wpAny _ _ (getAttr (Value.ref _) (PySem.Str.ofString "array") _) _ _ _); k_dflt (refine' get_array ?zqk1 ?zqk2 ?zqk3 ?zqk4 ?_; walk_at "K4"; k_whole; intro tj'; (try dsimp only)))
  k_with "getAttr ref" => (k_here; (with_reducible show wpAny _ _ (getAttr (Value.ref _) (PySem.Str.ofString "nodes") _) _ _ _); k_dflt (refine' get_nodes ?zqk1 ?zqk2 ?zqk3 ?zqk4 ?_; walk_at "K4"; k_whole; intro tj'; (try dsimp only)))
  k_with "getAttr ref" => (k_here; (with_reducible show wpAny _ _ (getAttr (Value.ref _) (PySem.Str.ofString "key") _) _ _ _); k_dflt (first | (refine' get_key_none ?zqk1 ?zqk2 ?zqk3 ?zqk4 ?zqk5 ?zqk6 ?zqk7 ?_; walk_at "K4"; walk_at "K56"; (case zqk7 => assumption); k_whole; intro tj'; (try dsimp only)) | (refine' get_key_some ?zqk1 ?zqk2 ?zqk3 ?zqk4 ?zqk5 ?zqk6 ?zqk7 ?_; walk_at "K4"; walk_at "K56"; (case zqk7 => assumption); k_whole; intro kv' tj' hkv'; (try dsimp only)) | (refine' get_key_any ?zqk1 ?zqk2 ?zqk3 ?zqk4 ?zqk5 ?zqk6 ?_; walk_at "K4"; walk_at "K56"; k_whole; intro kv' tj' hkv'; (try dsimp only))))
  k_with "getAttr ref" => (k_here; (with_reducible show wpAny _ _ (getAttr (Value.ref _) (PySem.Str.ofString "value") _) _ _ _); k_dflt (refine' get_value ?zqk1 ?zqk2 ?zqk3 ?zqk4 ?zqk5 ?zqk6 ?_; walk_at "K4"; walk_at "K56"; k_whole; intro tj'; (try dsimp only)))
  k_with "getAttr ref" => (k_here; (with_reducible show wpAny _ _ (getAttr (Value.ref _) (PySem.Str.ofString "next") _) _ _ _); k_dflt (refine' get_next ?zqk1 ?zqk2 ?zqk3 ?zqk4 ?zqk5 ?zqk6 ?_; walk_at "K4"; walk_at "K56"; k_whole; intro tk' tj'; (try dsimp only)))
  k_with "setAttr ref" => (k_here; (with_reducible show wpAny _ _ (setAttr (Value.ref _) (PySem.Str.ofString "free") _) _ _ _); k_dflt (refine' set_free ?zqk1 ?zqk2 ?zqk3 ?zqk4 ?_; walk_at "K4"; walk_at "KN"))
  k_with "setAttr ref" => (k_here; (with_reducible show wpAny _ _ (setAttr (Value.ref _) (PySem.Str.ofString "size") _) _ _ _); k_dflt (refine' set_size ?zqk1 ?zqk2 ?zqk3 ?zqk4 ?_; walk_at "K4"; walk_at "KN"))
  k_with "setAttr ref" => (k_here; (with_reducible show wpAny _ _ (setAttr (Value.ref _) (PySem.Str.ofString "flags") _) _ _ _); k_dflt (refine' set_flags ?zqk1 ?zqk2 ?zqk3 ?zqk4 ?_; walk_at "K4"; walk_at "KN"))
  k_with "setAttr ref" => (k_here; (with_reducible show wpAny _ _ (setAttr (Value.ref _) (PySem.Str.ofString "log_nodes") _) _ _ _); k_dflt (refine' set_log_nodes ?zqk1 ?zqk2 ?zqk3 ?zqk4 ?_; walk_at "K4"; walk_at "KN"))
  k_with "setAttr ref" => (k_here; (with_reducible show wpAny _ _ (setAttr (Value.ref _) (PySem.Str.ofString "key") _) _ _ _); k_dflt (refine' set_key ?zqk1 ?zqk2 ?zqk3 ?zqk4 ?zqk5 ?zqk6 ?zqk7 ?_; walk_at "K4"; walk_at "K56"; (case zqk7 => first | assumption | exact KV.none); walk_at "KN"))
  k_with "setAttr ref" => (k_here; (with_reducible show wpAny _ _ (setAttr (Value.ref _) (PySem.Str.ofString "value") _) _ _ _); k_dflt (refine' set_value ?zqk1 ?zqk2 ?zqk3 ?zqk4 ?zqk5 ?zqk6 ?zqk7 ?_; walk_at "K4"; walk_at "K56"; (case zqk7 => first | assumption | rfl); walk_at "KN"))
  k_with "setAttr ref" => (k_here; (with_reducible show wpAny _ _ (setAttr (Value.ref _) (PySem.Str.ofString "next") _) _ _ _); k_dflt (refine' set_next ?zqk1 ?zqk2 ?zqk3 ?zqk4 ?zqk5 ?zqk6 ?_; walk_at "K4"; walk_at "K56"; walk_at "KN"))
  k_with "getMethod ref" => (k_here; (with_reducible show wpAny _ _ (getMethod (Value.ref _) _ _) _ _ _); k_dflt (refine' tab_meth ?zqk1 ?zqk2 ?zqk3 ?zqk4 ?zqk5 ?zqk6 ?zqk7 ?zqk8 ?_; walk_at "K4"; (case zqk5 => k_is); (case zqk6 => k_is); (case zqk7 => k_is); (case zqk8 => decide +kernel); k_whole))
  k_with "call builtin:len" => (k_here; (with_reducible show wpAny _ _ (call (Value.builtin "len") [Value.ref _]) _ _ _); k_dflt (first | (refine' len_nodes ?zqk3 ?zqk4 ?_; (case zqk3 => k_asm); (case zqk4 => k_asm); k_whole; intro tk' tj'; (try dsimp only)) | (refine' len_arr ?zqk3 ?zqk4 ?_; (case zqk3 => k_asm); (case zqk4 => k_asm); k_whole; intro tk' tj'; (try dsimp only))))
  k_with "subscriptTail" => (k_here; (with_reducible show wpAny _ _ (subscriptTail _ _ (Value.ref _) (Value.int _ _)) _ _ _); k_dflt (first | (refine' item_node ?zqk3 ?zqk4 ?zqk5 ?zqk6 ?_ ?zqk7; (case zqk3 => k_asm); (case zqk4 => k_asm); (case zqk5 => assumption); (case zqk6 => first | assumption | omega); (case zqk7 => with_unfolding_all rfl); k_whole) | (refine' item_arr ?zqk3 ?zqk4 ?zqk5 ?zqk6 ?_ ?zqk7; (case zqk3 => k_asm); (case zqk4 => k_asm); (case zqk5 => assumption); (case zqk6 => first | assumption | omega); (case zqk7 => with_unfolding_all rfl); k_whole)))
  k_with "setItem ref int" => (k_here; (with_reducible show wpAny _ _ (setItem (Value.ref _) (Value.int _ _) _) _ _ _); k_dflt (refine' set_arr ?zqk1 ?zqk3 ?zqk4 ?zqk5 ?zqk6 ?_; (case zqk1 => k_asm); (case zqk3 => k_asm); (case zqk4 => k_asm); (case zqk5 => omega); (case zqk6 => (try dsimp only); omega); k_whole; intro h' n' F' N' hT' hK'; (try dsimp only); (try k_sweep)))
  k_with "call builtin:list.append" => (k_here; (with_reducible show wpAny _ _ (call (Value.builtin _) [Value.ref _, _]) _ _ _); k_dflt (refine' app_arr ?zqk1 ?zqk3 ?zqk4 ?zqk5 ?_; (case zqk1 => k_asm); (case zqk3 => k_asm); (case zqk4 => k_asm); (case zqk5 => (try dsimp only); omega); k_whole; intro h' n' F' N' hT' hK'; (try dsimp only); (try k_sweep)))
  k_with "compareOp Is" => (k_here; (with_reducible show wpAny _ _ (compareOp CmpOp.Is _ Value.none) _ _ _); k_dflt (refine' kv_isnone ?zqk1 ?_; (case zqk1 => assumption); k_whole))
  k_with "exec For Name Name cons nil" => (k_here; (rename Fr _ _ _ _ => lF'); (with_unfolding_all refine' For_invVF lF' ?zqk1 ?zqk2 ?_; (case zqk1 => exact rfl); (case zqk2 => exact rfl); k_whole))
  k_with "exec For Name Call cons nil" => (k_here; (rename Fr _ _ _ _ => lF'); (with_unfolding_all refine' For_invVF lF' ?zqk1 ?zqk2 ?_; (case zqk1 => exact rfl); (case zqk2 => exact rfl); k_whole))
  k_with "exec For Name Attribute cons nil" => (k_here; (rename Fr _ _ _ _ => lF'); (with_unfolding_all refine' For_invVF lF' ?zqk1 ?zqk2 ?_; (case zqk1 => exact rfl); (case zqk2 => exact rfl); k_whole))
  k_with "TP" => ((first | (with_reducible show Mine.TP _ _ _ _ _ _ (Flow.ret _) _) | (with_reducible show Mine.TP _ _ _ _ _ _ Flow.brk _) | (with_reducible show Mine.TP _ _ _ _ _ _ Flow.next _) | (with_reducible show Mine.TP _ _ _ _ _ _ Flow.cont _)); (dsimp only [Mine.TP]))
  k_with "compareOp Is" => (k_here; (with_reducible show wpAny _ _ (compareOp CmpOp.Is _ Value.none) _ _ _); k_dflt (first | (refine' is_eq ?zqk1 ?_; (case zqk1 => assumption); k_whole) | (refine' is_ne ?zqk1 ?_; (case zqk1 => assumption); k_whole)))
  k_with "compareOp IsNot" => (k_here; (with_reducible show wpAny _ _ (compareOp CmpOp.IsNot _ Value.none) _ _ _); k_dflt (first | (refine' isnot_eq ?zqk1 ?_; (case zqk1 => assumption); k_whole) | (refine' isnot_ne ?zqk1 ?_; (case zqk1 => assumption); k_whole)))
  exact trivial

theorem pick_from (vs : List Value) {x : Int} (h : 0 ≤ x) : slicePick vs.toArray (some x) none none = (vs.drop x.toNat).toArray := by
  rw [kms_pick_eq]
  show (List.take _ (List.drop (if x < 0 then _ else min x.toNat vs.length) vs)).toArray = _
  rw [if_neg (by omega), kmk_drop_min]
  show (List.take (vs.length - (if x < 0 then _ else min x.toNat vs.length)) _).toArray = _
  rw [if_neg (by omega), List.take_of_length_le (by rw [List.length_drop]; omega)]
theorem pick_to (vs : List Value) {x : Int} (h : 0 ≤ x) : slicePick vs.toArray none (some x) none = (vs.take x.toNat).toArray := by
  rw [kms_pick_eq]
  show (List.take ((if x < 0 then _ else min x.toNat vs.length) - 0) (List.drop 0 vs)).toArray = _
  rw [if_neg (by omega), List.drop_zero, Nat.sub_zero, kmk_take_min]
theorem TabIn.touch_mem {t a : Addr} {l : Led} {Y : Lay} {T : Tab} (hT : TabIn l t Y T) (h : a ∈ touch Y) : ∃ o, (a, o) ∈ l := by
  rcases List.mem_cons.mp h with rfl | h
  · obtain ⟨o, _, hd⟩ := hT.dict; exact ⟨_, hd⟩
  · rcases List.mem_cons.mp h with rfl | h
    · obtain ⟨c, ha⟩ := hT.arr; exact ⟨_, ha⟩
    · obtain ⟨p, hp, rfl⟩ := List.mem_map.mp h
      obtain ⟨i, hi, e⟩ := List.getElem_of_mem hp
      have h2 : i < T.nodes.length := by have := hT.len; omega
      obtain ⟨_, _, kv, o, _, _, hm⟩ := hT.node i p T.nodes[i] (by rw [List.getElem?_eq_getElem hi, e]) (List.getElem?_eq_getElem h2)
      exact ⟨_, hm⟩
/-- nodes that stand apart from the table -/
noncomputable def OldAt (nw : Led) (Y : Lay) (ns : List (Addr × Addr)) (nodes : List PNode) : Prop := ∀ (i : Nat) p x, ns[i]? = some p → nodes[i]? = some x → NodeAt nw p x ∧ p.1 ∉ touch Y ∧ p.2 ∉ touch Y
theorem OldAt.step {nw nw' : Led} {Y Y' : Lay} {ns : List (Addr × Addr)} {nodes : List PNode} (h : OldAt nw Y ns nodes) (S : Step Y nw Y' nw') : OldAt nw' Y' ns nodes := by
  intro i p x hp hx
  obtain ⟨⟨h1, h2, kv, o, h3, h4, h5⟩, h6, h7⟩ := h i p x hp hx
  exact ⟨⟨(S.off h1 h6).1, h2, kv, o, h3, h4, (S.off h5 h7).1⟩, (S.off h1 h6).2, (S.off h5 h7).2⟩
theorem TabIn.oldAt {h₀ h : Heap} {L : Addr} {t : Addr} {l : Led} {Y : Lay} {T : Tab} (N : News h₀ L h l) (hT : TabIn l t Y T) : OldAt l ⟨Y.d, Y.al, Y.nl, []⟩ Y.ns T.nodes := by
  intro i p x hp hx
  have ad := (hT.addr N).2.2.2 p (List.mem_of_getElem? hp)
  have hd := (List.nodup_cons.mp hT.dis).1
  refine ⟨hT.node i p x hp hx, fun h => ad.1 ?_, fun h => ?_⟩
  · rcases List.mem_cons.mp h with h | h
    · rw [h]; exact .head _
    · rcases List.mem_cons.mp h with h | h
      · rw [h]; exact .tail _ (.head _)
      · cases h
  · rcases List.mem_cons.mp h with h | h
    · exact hd (List.mem_map.mpr ⟨p, List.mem_of_getElem? hp, h⟩)
    · rcases List.mem_cons.mp h with h | h
      · exact ad.2 h
      · cases h
theorem Step.sub {Y Y' : Lay} {l l2 n : Led} (S : Step Y l2 Y' n) (sub : ∀ p ∈ l, p ∈ l2) : Step Y l Y' n :=
  ⟨fun p hp hn => S.1 p (sub p hp) hn, fun a ha => (S.2 a ha).elim .inl fun q => .inr fun p hp hn => q p (sub p hp) hn⟩
theorem Step.offl {Y Yc Yd : Lay} {n0 nw its n : Led} (S1 : Step Y n0 Yc nw) (S2 : Step Yc nw Yd n) (hoff : ∀ p ∈ nw, ∀ q ∈ its, p.1 ≠ q.1) : Step Y n0 Yd (Mine.offl its n) :=
  ⟨fun p hp hn => mem_offl.mpr ⟨(S1.trans S2).1 p hp hn, hoff p (S1.1 p hp hn)⟩, (S1.trans S2).2⟩
theorem Step.its {t : Addr} {Y Y' : Lay} {T : Tab} {nw its n : Led} (hT : TabIn nw t Y T) (S : Step Y (its ++ nw) Y' n) (hoff : ∀ p ∈ nw, ∀ q ∈ its, p.1 ≠ q.1) : ∀ q ∈ its, q ∈ n := fun q hq =>
  S.1 q (List.mem_append_left _ hq) fun h => by
    obtain ⟨o, hm⟩ := hT.touch_mem h
    exact hoff _ hm q hq rfl
section
variable {w : World} {A : Around} {E : Value → Shared → Prop} {s : Shared} {h₀ : Heap} {L t : Addr} {m : Str → Option Value} {news : Led} {Y : Lay} {T : Tab}
theorem slice_from {value slice : PySem.Expr} {x : Int} {tx : Tok} {Q : Value → Shared → Prop} (F : Fr h₀ L s.heap m) (N : News h₀ L s.heap news) (hT : TabIn news t Y T) (h0 : 0 ≤ x)
    (h : ∀ D h', Fr h₀ L h' m → News h₀ L h' ((D, listOf (T.arr.drop x.toNat).toArray 0) :: news) → (∀ p ∈ news, p.1 < D) → TabIn ((D, listOf (T.arr.drop x.toNat).toArray 0) :: news) t Y T → Q (.ref D) { s with heap := h' })
    (hs : subscripted slice false (.ref Y.al) (.ref s.heap.objs.size) = operate [.ref s.heap.objs.size, .ref Y.al] (getItem (.ref Y.al) (.ref s.heap.objs.size))) (ht : ∀ r, letTemporaryGo value (.ref Y.al) r = pure ()) :
    wpAny (model PySem.Challenge.rw_pq0681_01.row.prog w) A (subscriptTail value slice (.ref Y.al) (.ref s.heap.objs.size)) Q E { s with heap := s.heap.push { cls := .type "slice", data := .fields #[.int x tx, .none, .none] } } := by
  obtain ⟨c, hm⟩ := hT.arr
  have hz := hT.asz
  refine kmk_slice F N (PySem.IsL.isList (n := c) (N _ hm).1) (IsPart.int _ _) IsPart.none (fun D h' F' N' l1 => ?_) hs ht (by rw [sizeLine_eq, List.size_toArray]; omega)
  rw [pick_from _ h0] at N'
  exact h D h' F' N' l1 (hT.mono fun p hp => .tail _ hp)
theorem slice_to {value slice : PySem.Expr} {x : Int} {tx : Tok} {Q : Value → Shared → Prop} (F : Fr h₀ L s.heap m) (N : News h₀ L s.heap news) (hT : TabIn news t Y T) (h0 : 0 ≤ x)
    (h : ∀ D h', Fr h₀ L h' m → News h₀ L h' ((D, listOf (T.arr.take x.toNat).toArray 0) :: news) → (∀ p ∈ news, p.1 < D) → TabIn ((D, listOf (T.arr.take x.toNat).toArray 0) :: news) t Y T → Q (.ref D) { s with heap := h' })
    (hs : subscripted slice false (.ref Y.al) (.ref s.heap.objs.size) = operate [.ref s.heap.objs.size, .ref Y.al] (getItem (.ref Y.al) (.ref s.heap.objs.size))) (ht : ∀ r, letTemporaryGo value (.ref Y.al) r = pure ()) :
    wpAny (model PySem.Challenge.rw_pq0681_01.row.prog w) A (subscriptTail value slice (.ref Y.al) (.ref s.heap.objs.size)) Q E { s with heap := s.heap.push { cls := .type "slice", data := .fields #[.none, .int x tx, .none] } } := by
  obtain ⟨c, hm⟩ := hT.arr
  have hz := hT.asz
  refine kmk_slice F N (PySem.IsL.isList (n := c) (N _ hm).1) IsPart.none (IsPart.int _ _) (fun D h' F' N' l1 => ?_) hs ht (by rw [sizeLine_eq, List.size_toArray]; omega)
  rw [pick_to _ h0] at N'
  exact h D h' F' N' l1 (hT.mono fun p hp => .tail _ hp)
theorem TabIn.new_arr {h : Heap} {l : Led} (N : News h₀ L h l) (hT : TabIn l t Y T) {a : Addr} {vs : List Value} {c : Nat} (ha : (a, listOf vs.toArray c) ∈ l) (hne : a ≠ Y.nl) (hz : vs.length < 2 ^ 24) {o : Obj} (ho : TabDict a Y.nl T.size T.free o) (hfresh : ∀ p ∈ Y.ns, p.2 ≠ a) :
    TabIn (put Y.d o l) t ⟨Y.d, a, Y.nl, Y.ns⟩ { T with arr := vs } ∧ Keeps Y l (put Y.d o l) := by
  have ad := hT.addr N
  have kp : Keeps Y l (put Y.d o l) := fun p hp hn => put_ne hp fun e => hn (by rw [e]; exact .head _)
  obtain ⟨hi, ⟨o', hd, hdm⟩, ⟨ca, ha'⟩, ⟨cn, hn⟩, hl, hnode, hdis, haln, h1, h2⟩ := hT
  have hda : a ≠ Y.d := fun e => by
    cases hd
    cases congrArg Obj.data (News.fn N ha (by rw [show a = Y.d from e]; exact hdm))
  refine ⟨⟨kp _ hi ad.1, ⟨o, ho, put_self⟩, ⟨c, put_ne ha hda⟩, ⟨cn, kp _ hn ad.2.1⟩, hl, fun i p x hp hx => ?_, hdis, hne, hz, h2⟩, kp⟩
  obtain ⟨hin, hvx, kv, o2, k1, k2, k3⟩ := hnode i p x hp hx
  have hmem := List.mem_of_getElem? hp
  refine ⟨kp _ hin (ad.2.2.2 p hmem).1, hvx, kv, o2, k1, k2, put_ne k3 fun e => ?_⟩
  exact (List.nodup_cons.mp hdis).1 (List.mem_map.mpr ⟨p, hmem, e⟩)
theorem set_array_new {Q : Unit → Shared → Prop} {D : Addr} {vs : List Value} (F : Fr h₀ L s.heap m) (X : (Mine.hd.heap_1 w.params).In h₀) (N : News h₀ L s.heap ((D, listOf vs.toArray 0) :: news)) (l1 : ∀ p ∈ news, p.1 < D) (hT : TabIn news t Y T) (hz : vs.length < 2 ^ 24)
    (h : ∀ h' tk' n' Y', Y' = ⟨Y.d, D, Y.nl, Y.ns⟩ → Fr h₀ L h' m → News h₀ L h' n' → TabIn n' t Y' { T with arr := vs } → Step Y news Y' n' → Q () { s with heap := h', toks := tk' }) :
    wpAny (model PySem.Challenge.rw_pq0681_01.row.prog w) A (setAttr (.ref t) (Str.ofString "array") (.ref D)) Q E s := by
  have hT2 : TabIn ((D, listOf vs.toArray 0) :: news) t Y T := hT.mono fun p hp => .tail _ hp
  refine set_array F X N hT2 fun h' tk' o F' N' ho => ?_
  have hn : D ≠ Y.nl := fun e => by
    obtain ⟨c, hm⟩ := hT.nds
    exact Nat.ne_of_lt (l1 _ hm) e.symm
  have hp : ∀ p ∈ Y.ns, p.2 ≠ D := fun p hp e => by
    obtain ⟨o, hm⟩ := hT.touch_mem (.tail _ (.tail _ (List.mem_map_of_mem hp)))
    exact Nat.ne_of_lt (l1 _ hm) e
  have q := hT2.new_arr N (.head _) hn hz ho hp
  refine h _ _ _ _ rfl F' N' q.1 ⟨fun p hp hn => q.2 p (.tail _ hp) hn, fun a ha => ?_⟩
  rcases List.mem_cons.mp ha with rfl | ha
  · exact .inl (.head _)
  · rcases List.mem_cons.mp ha with rfl | ha
    · exact .inr fun q hq _ => l1 q hq
    · exact .inl (.tail _ (.tail _ ha))
end
theorem wd_P19_32 : True := by
  k_with "subscriptTail" => (k_here; (with_reducible show wpAny _ _ (subscriptTail _ (PySem.Expr.Slice _ _ none _) (Value.ref _) (Value.ref _)) _ _ _); k_dflt (first | (refine' slice_from ?zqF ?zqN ?zqT ?zqz ?_ ?zqs ?zqt; (case zqF => k_asm); (case zqN => k_asm); (case zqT => k_asm); (case zqz => omega); (case zqs => with_unfolding_all rfl); (case zqt => kmk_pure); k_whole; intro D' h' F' N' l1 hT') | (refine' slice_to ?zqF ?zqN ?zqT ?zqz ?_ ?zqs ?zqt; (case zqF => k_asm); (case zqN => k_asm); (case zqT => k_asm); (case zqz => omega); (case zqs => with_unfolding_all rfl); (case zqt => kmk_pure); k_whole; intro D' h' F' N' l1 hT')); (try k_sweep))
  k_with "setAttr ref" => (k_here; (with_reducible show wpAny _ _ (setAttr (Value.ref _) (PySem.Str.ofString "array") _) _ _ _); k_dflt (refine' set_array_new ?zqk1 ?zqk2 ?zqk3 ?zqk4 ?zqk5 ?zqk6 ?_; (case zqk1 => k_asm); (case zqk2 => k_asm); (case zqk3 => k_asm); (case zqk4 => assumption); (case zqk5 => assumption); (case zqk6 => simp only [List.length_take]; omega); k_whole; intro h' tj' n' Y' eY' F' N' hT' hS'; (try dsimp only); (try k_sweep)))
  k_with "call builtin:len" => (k_here; (with_reducible show wpAny _ _ (call (Value.builtin "len") [Value.ref _]) _ _ _); k_dflt (first | (refine' len_nodes ?zqk1 ?zqk2 ?_; (case zqk1 => k_asm); (case zqk2 => k_asm); k_whole; intro tk' tj'; (try dsimp only)) | (refine' len_arr ?zqk1 ?zqk2 ?_; (case zqk1 => k_asm); (case zqk2 => k_asm); k_whole; intro tk' tj'; (try dsimp only))))
  exact trivial
theorem vanish_off {V : Addr} {t : Addr} {news n1 : Led} {Y Y1 : Lay} {T : Tab} {lo : Obj} (hT : TabIn news t Y T) (lV : ∀ p ∈ news, p.1 < V) (S : Step Y ((V, lo) :: news) Y1 n1) : (V, lo) ∈ n1 ∧ V ∉ touch Y1 :=
  S.off (.head _) fun h => by
    obtain ⟨o, hm⟩ := hT.touch_mem h
    exact Nat.lt_irrefl _ (lV _ hm)
theorem new_off {V : Addr} {t : Addr} {news : Led} {Y : Lay} {T : Tab} (hT : TabIn news t Y T) (lV : ∀ p ∈ news, p.1 < V) : V ∉ touch Y := fun h => by
  obtain ⟨o, hm⟩ := hT.touch_mem h
  exact Nat.lt_irrefl _ (lV _ hm)
theorem off2 {I J : Addr} {e it : Obj} {nw : Led} (h : ∀ p ∈ nw, p.1 ≠ J ∧ p.1 ≠ I) : ∀ p ∈ nw, ∀ q ∈ [(J, e), (I, it)], p.1 ≠ q.1 := by
  intro p hp q hq
  rcases List.mem_cons.mp hq with rfl | hq
  · exact (h p hp).1
  · rw [List.mem_singleton.mp hq]; exact (h p hp).2
theorem off1 {I : Addr} {it : Obj} {nw : Led} (h : ∀ p ∈ nw, p.1 ≠ I) : ∀ p ∈ nw, ∀ q ∈ [(I, it)], p.1 ≠ q.1 := by
  intro p hp q hq
  rw [List.mem_singleton.mp hq]; exact h p hp
theorem iterLed2 {I J : Addr} {e it : Obj} (he : e.cls = .type "enumerate") (hit : it.cls = .type "list_iterator") : IterLed [(J, e), (I, it)] := by
  intro q hq
  rcases List.mem_cons.mp hq with rfl | hq
  · exact ⟨_, by decide, he⟩
  · rw [List.mem_singleton.mp hq]; exact ⟨_, by decide, hit⟩
theorem turn_led {h₀ h : Heap} {L t : Addr} {its nw n' l0 : Led} {Y Yc Yd : Lay} {Tc Td : Tab} {ns : List (Addr × Addr)} {nodes : List PNode} (N : News h₀ L h n') (hTn : TabIn n' t Yd Td) (S2 : Step Yc (its ++ nw) Yd n') (hTc : TabIn nw t Yc Tc) (S1 : Step Y l0 Yc nw) (hO : OldAt nw Yc ns nodes)
    (hoff : ∀ p ∈ nw, ∀ q ∈ its, p.1 ≠ q.1) (hI : IterLed its) : (∀ q ∈ its, q ∈ n') ∧ TabIn (offl its n') t Yd Td ∧ Step Y l0 Yd (offl its n') ∧ OldAt (offl its n') Yd ns nodes := by
  have sub := S2.its hTc hoff
  have S3 : Step Yc nw Yd n' := S2.sub fun p hp => List.mem_append_right _ hp
  exact ⟨sub, hTn.offl N sub hI, S1.offl S3 hoff, hO.step (Step.refl.offl S3 hoff)⟩
theorem rev_led {w : World} {A : Around} {E : Value → Shared → Prop} {s : Shared} {h₀ : Heap} {L l : Addr} {m : Str → Option Value} {news : Led} {vs : List Value} {c : Nat} {Q : Value → Shared → Prop} (F : Fr h₀ L s.heap m) (N : News h₀ L s.heap news) (hm : (l, listOf vs.toArray c) ∈ news)
    (h : ∀ D h', Fr h₀ L h' m → News h₀ L h' ((D, revObj l ((vs.length : Int) - 1)) :: news) → (∀ p ∈ news, p.1 < D) → Q (.ref D) { s with heap := h' }) :
    wpAny (model PySem.Challenge.rw_pq0681_01.row.prog w) A (call (.type "reversed") [.ref l]) Q E s :=
  krv_reversed F N (PySem.IsL.isList (n := c) (N _ hm).1) h
theorem wd_P19_33 : True := by
  k_with "call type:reversed" => (k_here; (with_reducible show wpAny _ _ (call (Value.type _) [Value.ref _]) _ _ _); k_dflt (refine' rev_led ?zqF ?zqN ?zql ?_; (case zqF => k_asm); (case zqN => k_asm); (case zql => assumption)); intro D' h' F' N' l1; (try k_sweep))
  exact trivial
theorem rev_take {ns : List (Addr × Addr)} {nodes : List PNode} {i : Nat} {v : Value} {r : List Value} (hl : ns.length = nodes.length) (hi : i ≤ nodes.length) (e : v :: r = ((ns.take i).map fun p => Value.ref p.1).reverse) :
    ∃ j p x, i = j + 1 ∧ ns[j]? = some p ∧ nodes[j]? = some x ∧ v = .ref p.1 ∧ r = ((ns.take j).map fun p => Value.ref p.1).reverse ∧ (nodes.take i).reverse = x :: (nodes.take j).reverse := by
  cases i with
  | zero => rw [List.take_zero] at e; cases e
  | succ j =>
    have h1 : j < ns.length := by omega
    have h2 : j < nodes.length := by omega
    rw [List.take_succ_eq_append_getElem h1, List.map_append, List.reverse_append] at e
    rw [List.take_succ_eq_append_getElem h2, List.reverse_append]
    obtain ⟨e1, e2⟩ := List.cons.inj e
    exact ⟨j, _, _, rfl, List.getElem?_eq_getElem h1, List.getElem?_eq_getElem h2, e1, e2, rfl⟩
section
variable {w : World} {A : Around} {E : Value → Shared → Prop} {s : Shared} {h₀ : Heap} {L : Addr} {m : Str → Option Value} {news : Led} {Q : Value → Shared → Prop} {expr : Bool} {p : Addr × Addr} {x : PNode}
set_option maxRecDepth 100000 in
set_option maxHeartbeats 8000000 in
theorem oget_value (F : Fr h₀ L s.heap m) (X : (Mine.hd.heap_1 w.params).In h₀) (N : News h₀ L s.heap news) (hN : NodeAt news p x)
    (h : ∀ tk', Q x.val { s with toks := tk' }) :
    wpAny (model PySem.Challenge.rw_pq0681_01.row.prog w) A (getAttr (.ref p.1) (Str.ofString "value") expr) Q E s := by
  obtain ⟨hNi, hv0, kv0, oN, hkv0, ⟨⟩, hNd⟩ := hN
  have fill : PySem.Challenge.rw_pq0681_01.row.prog = PySem.Challenge.rw_pq0681_01.row.prog ∧ (Mine.hd.heap_1 w.params).In h₀ := by
    k_fill
    exact ⟨rfl, X⟩
  refine' get_own F X (.of_news N hNi hNd) ?k4 ?k5 ?k6 ?k7 ?k8 ?k9 ?_
  case k4 => k_is
  case k5 => k_is
  case k6 => k_is
  case k7 => k_is
  case k8 => k_get
  case k9 => exact hv0
  exact h _
set_option maxRecDepth 100000 in
set_option maxHeartbeats 8000000 in
theorem oget_key (F : Fr h₀ L s.heap m) (X : (Mine.hd.heap_1 w.params).In h₀) (N : News h₀ L s.heap news) (hN : NodeAt news p x) {k : PKey} (hk : x.key = some k)
    (h : ∀ kv tk', KV kv (some k) → Q kv { s with toks := tk' }) :
    wpAny (model PySem.Challenge.rw_pq0681_01.row.prog w) A (getAttr (.ref p.1) (Str.ofString "key") expr) Q E s := by
  obtain ⟨hNi, hv0, kv0, oN, hkv0, ⟨⟩, hNd⟩ := hN
  rw [hk] at hkv0
  have fill : PySem.Challenge.rw_pq0681_01.row.prog = PySem.Challenge.rw_pq0681_01.row.prog ∧ (Mine.hd.heap_1 w.params).In h₀ := by
    k_fill
    exact ⟨rfl, X⟩
  refine' get_own F X (.of_news N hNi hNd) ?k4 ?k5 ?k6 ?k7 ?k8 ?k9 ?_
  case k4 => k_is
  case k5 => k_is
  case k6 => k_is
  case k7 => k_is
  case k8 => k_get
  case k9 => cases hkv0 <;> rfl
  exact h _ _ hkv0
end
theorem wd_P19_34 : True := by
  k_with "getAttr ref" => (k_here; (with_reducible show wpAny _ _ (getAttr (Value.ref _) (PySem.Str.ofString "value") _) _ _ _); k_dflt (refine' oget_value ?zqk1 ?zqk2 ?zqk3 ?zqk4 ?_; (case zqk1 => k_asm); (case zqk2 => k_asm); (case zqk3 => k_asm); (case zqk4 => assumption); k_whole; intro tj'; (try dsimp only)))
  k_with "getAttr ref" => (k_here; (with_reducible show wpAny _ _ (getAttr (Value.ref _) (PySem.Str.ofString "key") _) _ _ _); k_dflt (refine' oget_key ?zqk1 ?zqk2 ?zqk3 ?zqk4 ?zqk5 ?_; (case zqk1 => k_asm); (case zqk2 => k_asm); (case zqk3 => k_asm); (case zqk4 => assumption); (case zqk5 => assumption); k_whole; intro kv' tj' hkv'; (try dsimp only)))
  k_with "call ref" => (k_here; k_dflt ((refine' Spec.useT (weigh_spec _ _ _ _) ?zqk1 ?zqk2 ?zqk3 ?zqk4 ?zqk5 ?zqkK ?zqkP ?zqkd ?zqku ?_; (case zqk1 => k_asm); (case zqk2 => k_asm); (case zqk3 => k_asm); (case zqk4 => k_asm); (case zqk5 => k_asm); (case zqkK => first | exact rfl | assumption); (case zqkP => assumption); (case zqkd => walk_at "KD"); (case zqku => walk_at "KU"); k_whole; intro h' tk' n' Y9 F' N' hT9 hS9); (try dsimp only); (try k_sweep)))
  k_with "call ref" => (k_here; k_dflt ((refine' Spec.useT (putback_spec _ _ _ (by assumption) _ _ _ _ _ _ _ (by first | assumption | exact KV.int _ _) (by first | assumption | trivial) (by assumption) (by assumption)) ?zqk1 ?zqk2 ?zqk3 ?zqk4 ?zqk5 ?zqkK ?zqkP ?zqkd ?zqku ?_; (case zqk1 => k_asm); (case zqk2 => k_asm); (case zqk3 => k_asm); (case zqk4 => k_asm); (case zqk5 => k_asm); (case zqkK => first | exact rfl | assumption); (case zqkP => assumption); (case zqkd => walk_at "KD"); (case zqku => walk_at "KU"); k_whole; intro h' tk' n' Y9 F' N' hT9 hS9); (try dsimp only); (try k_sweep)))
  k_with "call builtin:list.append" => (k_here; (show wpAny _ _ (call (Value.builtin "list.append") [Value.ref _, _]) _ _ _); k_dflt (refine' app_arr ?zqk1 ?zqk3 ?zqk4 ?zqk5 ?_; (case zqk1 => k_asm); (case zqk3 => k_asm); (case zqk4 => k_asm); (case zqk5 => (try dsimp only); (first | assumption | omega)); k_whole; intro h' n' F' N' hT' hK'; (try dsimp only); (try k_sweep)))
  k_with "exec For Tuple Call" => (k_here; (rename Fr _ _ _ _ => lF'); (with_unfolding_all refine' For_turns lF' ?_; k_whole))
  k_with "call ref" => (k_here; k_dflt ((refine' Spec.useT (makenodes_spec _ _ _ _ _ _ (by omega)) ?zqk1 ?zqk2 ?zqk3 ?zqk4 ?zqk5 ?zqkK ?zqkP ?zqkd ?zqku ?_; (case zqk1 => k_asm); (case zqk2 => k_asm); (case zqk3 => k_asm); (case zqk4 => k_asm); (case zqk5 => k_asm); (case zqkK => first | exact rfl | assumption); (case zqkP => assumption); (case zqkd => walk_at "KD"); (case zqku => walk_at "KU"); k_whole; intro h' tk' n' Y9 F' N' hT9 hS9); (try dsimp only); (try k_sweep)))
  exact trivial
theorem cut_step {n len j k L : Nat} (hL : L = min n len + j) (h : j + (k + 1) = n - len) : L + k + 1 = n := by omega
theorem cut_end {n len j L : Nat} (hL : L = min n len + j) (h : j + 0 = n - len) : L = n := by omega
theorem cut_lt {L k n : Nat} {az : Int} (h : L + k + 1 = n) (e : (n : Int) = az) : (L : Int) < az := by omega
theorem cut_sz {L k n : Nat} {az : Int} (h : L + k + 1 = n) (e : (n : Int) = az) (hz : az ≤ 4194304) : L + 1 < 2 ^ 24 := by omega
theorem sub_step {a b : Nat} (h : b + 1 ≤ a) : a - b = a - (b + 1) + 1 := by omega
theorem nxt_ix {az : Int} {x y : Nat} (h : x = y + 1) : az + (x : Int) + 1 = az + (y : Int) + 1 + 1 := by omega
set_option maxRecDepth 100000 in
set_option maxHeartbeats 8000000 in
theorem resize_any (w : World) (nk : NK) (c : Nat) (S : NKS w nk c) (t : Addr) (Y : Lay) (T : Tab) (az hz : Int) (ta th : Tok) (T' : Tab) (h : resizeW nk T az hz = some T') (args : List Value)
    (hb : ∀ (s : Shared) (o : Obj) (fd : FuncData), (Mine.hd.heap_1 w.params).In s.heap → (Mine.hd.heap_1 w.params).lookup 330 = some o → o.data = .func fd → BindsTo s fd ⟨args, []⟩ [(Str.ofString "self", .ref t), (Str.ofString "array_size", .int az ta), (Str.ofString "hash_size", .int hz th), (Str.ofString "heap", .none)]) :
    Spec w 330 args (c + 20) (fun nw => TabIn nw t Y T) (TabNew t Y T') := by
  unfold Spec
  k_fill
  intro mean mg mb dp un gd cn cs a ccd cl outer A₀ base h₀ L m news s Q E B F X N TP hk hP hd hu hret
  w_top on
  w_on
  rename TabIn _ _ _ _ => hT
  have hasz := hT.asz
  have hc : 0 ≤ az ∧ az ≤ 4194304 ∧ hz ≤ 1048576 := by
    rw [resizeW] at h
    split at h
    · assumption
    · cases h
  rw [resizeW, if_pos hc] at h
  obtain ⟨ha0, ha1, hh1⟩ := hc
  have adr := hT.addr N
  obtain ⟨cnl, hnl⟩ := hT.nds
  refine wpAny_call ?_
  refine' enter_ ?q1 ?q2 ?q3 ?q4 ?q5 ?qA ?qF ?qK ?q6 ?q7 ?q8 ?q9 ?qB ?_ ?qc2 ?qc3 ?qc4 ?qc5
  case qA => exact rfl
  case qF => exact rfl
  case qK => exact hk
  case q1 => k_asm
  case q2 => k_asm
  case q3 => k_asm
  case q4 => k_asm
  case q5 => k_asm
  case q6 => k_is
  case q7 => k_is
  case q8 => walk_at "KD"
  case q9 => exact hb _ _ _ (Frag.In.keeps X (Fr.keep F)) (by k_is) rfl
  case qc5 => decide
  case qB => exact locs rfl
  case qc2 => exact rfl
  case qc3 => exact rfl
  case qc4 => exact rfl
  k_whole
  intro g' L' h' tk' FG' mm F' N' B' X' T' qk ek
  k_steps
  constructor
  (rename Step _ _ _ _ => hS1)
  (rename _ = Lay.mk _ _ _ _ => eY1)
  (rename TabIn _ _ _ { T with arr := _ } => hT1)
  (rename ∀ p ∈ news, p.1 < _ => lV)
  have hVY := new_off hT lV
  obtain ⟨l0, hl0, hVl0, hS1⟩ : ∃ l0 : Led, (∀ p ∈ news, p ∈ l0) ∧ ((_, listOf (T.arr.drop az.toNat).toArray 0) ∈ l0) ∧ Step Y l0 _ _ := ⟨_, fun p hp => .tail _ hp, .head _, hS1⟩
  (rename Fr _ _ _ _ => lF); (rename News _ _ _ _ => lN)
  have nsz : T.nodes.length < 2 ^ 21 := hT1.nsz
  refine While_inv2 (fun k m1 nw => m1 = _ ∧ ∃ j Yj, TabIn nw t Yj { T with arr := T.arr.take az.toNat ++ List.replicate j .none } ∧ Step Y l0 Yj nw ∧ Yj.ns = Y.ns ∧ j + k = az.toNat - T.arr.length) (n₀ := az.toNat - T.arr.length) lF lN ⟨rfl, 0, _, by rw [List.replicate_zero, List.append_nil]; exact hT1, hS1, by rw [eY1], by omega⟩ ?_
  clear lF lN hT1 hS1
  rintro k m1 nw hh tk F N ⟨rfl, j, Yj, hT1, hS2, hns, hjk⟩
  have hlen : (T.arr.take az.toNat ++ List.replicate j Value.none).length = min az.toNat T.arr.length + j := by rw [List.length_append, List.length_take, List.length_replicate]
  cases k with
  | succ k =>
    obtain ⟨cal, hal⟩ := hT1.arr
    have han : (az.toNat : Int) = az := Int.toNat_of_nonneg ha0
    have hcs := cut_step hlen hjk
    have hgo := cut_lt hcs han
    have hsz9 := cut_sz hcs han ha1
    have hjk9 : j + 1 + k = az.toNat - T.arr.length := by rw [← hjk, Nat.add_right_comm]; rfl
    clear hlen hjk han
    (try k_fold)
    k_steps
    refine ⟨_, _, _, _, k, rfl, by assumption, by assumption, Nat.lt_succ_self k, rfl, j + 1, Yj, ?_, hS2.trans (.of (by assumption)), hns, hjk9⟩
    rw [List.replicate_succ', ← List.append_assoc]; assumption
  | zero =>
    have ecut : ({ T with arr := T.arr.take az.toNat ++ List.replicate j .none } : Tab) = cutArr T az := by rw [cutArr, show j = az.toNat - T.arr.length from hjk]
    have hlen2 : (T.arr.take az.toNat ++ List.replicate j Value.none).length = az.toNat := cut_end hlen hjk
    rw [ecut] at hT1
    have hla : (cutArr T az).arr.length = az.toNat := by rw [← ecut]; exact hlen2
    have hno : ¬ ((cutArr T az).arr.length : Int) < az := by rw [hla, Int.toNat_of_nonneg ha0]; exact Int.lt_irrefl _
    clear hlen hlen2 hjk
    have hOld := hT1.oldAt N
    (try k_fold)
    k_steps
    constructor
    (rename TabIn _ _ _ (mkNodes _ _) => hT2)
    (rename Step _ nw _ _ => hS3)
    replace hOld := hOld.step hS3
    rw [hns] at hOld
    replace hS3 := hS3.wide
    replace hS2 := hS2.trans hS3
    have hV2 := hS2.off hVl0 hVY
    clear hS3 hT1 F N
    obtain ⟨Tv, hTv⟩ : ∃ Tv, vanW nk (T.arr.drop az.toNat) (az + 1) (mkNodes (cutArr T az) hz) = some Tv := by
      cases hq : vanW nk (T.arr.drop az.toNat) (az + 1) (mkNodes (cutArr T az) hz) with
      | none => rw [hq] at h; cases h
      | some Tv => exact ⟨Tv, rfl⟩
    rw [hTv, Option.bind_some] at h
    (rename Fr _ _ _ _ => lF); (rename News _ _ _ _ => lN)
    with_unfolding_all refine' for_enum (σ := Unit) (fun _ => []) [Str.ofString "step", Str.ofString "value"] (fun r _ nw => r.length ≤ (T.arr.drop az.toNat).length ∧ ∃ Yc Tc, TabIn nw t Yc Tc ∧ Step Y l0 Yc nw ∧ OldAt nw Yc Y.ns T.nodes ∧ vanW nk r (az + (((T.arr.drop az.toNat).length - r.length : Nat) : Int) + 1) Tc = some Tv) () rfl lF lN hV2.1 rfl rfl ?keep ?hk ?start ?turn ?done
    case keep => exact fun r _ n ⟨_, Yc, Tc, _, hS, _⟩ => (hS.off hVl0 hVY).1
    case hk => exact fun _ hp => nomatch hp
    case start => exact ⟨Nat.le_refl _, _, _, hT2, hS2, hOld, by rw [Nat.sub_self]; simpa using hTv⟩
    case turn =>
      clear lF lN hT2 hS2 hOld hV2
      rintro _ v r u nw I Tt tt e it hh tk he hit hoff ⟨hrl, Yc, Tc, hTc, hSc, hOc, hvan⟩ hTup F N
      have hT3 : TabIn ((I + 1, e) :: (I, it) :: nw) t Yc Tc := hTc.mono fun p hp => .tail _ (.tail _ hp)
      have hidx : (T.arr.drop az.toNat).length - r.length = (T.arr.drop az.toNat).length - (r.length + 1) + 1 := sub_step hrl
      rw [vanW, List.length_cons] at hvan
      by_cases hvn : v = .none
      · rw [if_pos hvn] at hvan
        (try k_fold)
        k_steps
        (rename News _ _ _ _ => N9)
        have q := turn_led (its := [(I + 1, e), (I, it)]) N9 hT3 (Step.refl (l := [(I + 1, e), (I, it)] ++ nw)) hTc hSc hOc (off2 hoff) (iterLed2 he hit)
        exact te_endT () (by assumption) (by assumption) q.1 (fun _ hp => nomatch hp) (by (first | (intro z h2 h3; have h4 := ne_true_of_eq_false h3; simp only [List.forall_mem_cons, List.not_mem_nil, false_implies, implies_true, and_true, ne_eq] at h2; (try simp only [List.contains_cons, List.contains_nil, Bool.or_false, Bool.or_eq_false_iff, beq_eq_false_iff_ne, ne_eq] at h3); (repeat first | with_reducible rfl | (refine Eq.trans (kstB_ne ?zqs) ?_; (case zqs => first | exact h2 | exact h2.1 | exact h2.2 | exact h2.2.1 | exact h2.2.2 | exact h2.2.2.1 | exact h2.2.2.2 | exact h3 | exact h3.1 | exact h3.2 | exact h3.2.1 | exact h3.2.2 | exact h4)) | (refine Eq.trans (kstB_nil _ _) ?_) | (refine Eq.trans (if_neg ?zqs) ?_; (case zqs => first | exact h2 | exact h2.1 | exact h2.2 | exact h2.2.1 | exact h2.2.2 | exact h2.2.2.1 | exact h2.2.2.2 | exact h3 | exact h3.1 | exact h3.2 | exact h3.2.1 | exact h3.2.2 | exact h4))); done) | (intro z h2 h3; simp only [List.forall_mem_cons, List.not_mem_nil, false_implies, implies_true, and_true, ne_eq] at h2; (try simp only [List.contains_cons, List.contains_nil, Bool.or_false, Bool.or_eq_false_iff, beq_eq_false_iff_ne, ne_eq] at h3); simp +zetaDelta [kstB, h2, h3]))) ⟨Nat.le_of_succ_le hrl, _, _, q.2.1, q.2.2.1, q.2.2.2, by rw [nxt_ix hidx]; exact hvan⟩
      · rw [if_neg hvn] at hvan
        cases hhv : handedIn v with
        | false => rw [if_pos hhv] at hvan; cases hvan
        | true =>
          rw [if_neg (by rw [hhv]; decide)] at hvan
          cases hp1 : putBackW nk Tc (.int (az + (((T.arr.drop az.toNat).length - (r.length + 1) : Nat) : Int) + 1)) v with
          | none => rw [hp1] at hvan; cases hvan
          | some T1 =>
            rw [hp1, Option.bind_some] at hvan
            (try k_fold)
            k_steps
            (rename Step Yc _ _ _ => hS9)
            (rename TabIn _ _ _ T1 => hT9)
            (rename News _ _ _ _ => N9)
            have q := turn_led (its := [(I + 1, e), (I, it)]) N9 hT9 hS9 hTc hSc hOc (off2 hoff) (iterLed2 he hit)
            exact te_endT () (by assumption) N9 q.1 (fun _ hp => nomatch hp) (by (first | (intro z h2 h3; have h4 := ne_true_of_eq_false h3; simp only [List.forall_mem_cons, List.not_mem_nil, false_implies, implies_true, and_true, ne_eq] at h2; (try simp only [List.contains_cons, List.contains_nil, Bool.or_false, Bool.or_eq_false_iff, beq_eq_false_iff_ne, ne_eq] at h3); (repeat first | with_reducible rfl | (refine Eq.trans (kstB_ne ?zqs) ?_; (case zqs => first | exact h2 | exact h2.1 | exact h2.2 | exact h2.2.1 | exact h2.2.2 | exact h2.2.2.1 | exact h2.2.2.2 | exact h3 | exact h3.1 | exact h3.2 | exact h3.2.1 | exact h3.2.2 | exact h4)) | (refine Eq.trans (kstB_nil _ _) ?_) | (refine Eq.trans (if_neg ?zqs) ?_; (case zqs => first | exact h2 | exact h2.1 | exact h2.2 | exact h2.2.1 | exact h2.2.2 | exact h2.2.2.1 | exact h2.2.2.2 | exact h3 | exact h3.1 | exact h3.2 | exact h3.2.1 | exact h3.2.2 | exact h4))); done) | (intro z h2 h3; simp only [List.forall_mem_cons, List.not_mem_nil, false_implies, implies_true, and_true, ne_eq] at h2; (try simp only [List.contains_cons, List.contains_nil, Bool.or_false, Bool.or_eq_false_iff, beq_eq_false_iff_ne, ne_eq] at h3); simp +zetaDelta [kstB, h2, h3]))) ⟨Nat.le_of_succ_le hrl, _, _, q.2.1, q.2.2.1, q.2.2.2, by rw [nxt_ix hidx]; exact hvan⟩
    case done =>
      clear lF lN hT2 hS2 hOld hV2
      rintro _ u nw hh tk ⟨_, Yc, Tc, hTc, hSc, hOc, hvan⟩ F N
      rw [vanW] at hvan
      obtain rfl := Option.some.inj hvan
      have hNl2 := hSc.off (hl0 _ hnl) adr.2.1
      have hNlm := hNl2.1
      (try k_fold)
      k_steps
      constructor
      (rename ∀ p ∈ nw, p.1 < _ => lI)
      obtain ⟨I, eI, lI⟩ : ∃ I, I = _ ∧ ∀ p ∈ nw, p.1 < I := ⟨_, rfl, lI⟩
      subst eI
      obtain ⟨To, hTo⟩ : ∃ To, oldW nk T.nodes.reverse Tc = some To := by
        cases hq : oldW nk T.nodes.reverse Tc with
        | none => rw [hq] at h; cases h
        | some To => exact ⟨To, rfl⟩
      rw [hTo, Option.map_some] at h
      obtain rfl := Option.some.inj h
      (rename Fr _ _ _ _ => lF); (rename News _ _ _ _ => lN)
      with_unfolding_all refine' for_rev (σ := Unit) (fun _ => []) [] (fun r _ nw => ∃ i Yc Tc, TabIn nw t Yc Tc ∧ Step Y l0 Yc nw ∧ OldAt nw Yc Y.ns T.nodes ∧ i ≤ T.nodes.length ∧ r = ((Y.ns.take i).map (fun p => Value.ref p.1)).reverse ∧ oldW nk ((T.nodes.take i).reverse) Tc = some To) () rfl lF lN (fun p hp => Nat.ne_of_lt (lI p hp)) hNlm rfl rfl ?keep ?hk ?start ?turn ?done
      case keep => exact fun r _ n ⟨_, Yc, Tc, _, hS, _⟩ => (hS.off (hl0 _ hnl) adr.2.1).1
      case hk => exact fun _ hp => nomatch hp
      case start => exact ⟨T.nodes.length, _, _, hTc, hSc, hOc, Nat.le_refl _, by rw [List.take_of_length_le (by rw [hT.len]; exact Nat.le_refl _)], by rw [List.take_length]; exact hTo⟩
      case turn =>
        clear lF lN lI hTc hSc hOc hNl2 hNlm
        rintro _ v r u nw it hh tk hit hoff ⟨i, Yc, Tc, hTc, hSc, hOc, hi, hri, hold⟩ F N
        obtain ⟨j, p, x, rfl, hp, hx, rfl, rfl, hrev⟩ := rev_take hT.len hi hri
        rw [hrev, oldW] at hold
        have hT3 : TabIn ((I, it) :: nw) t Yc Tc := hTc.mono fun p hp => .tail _ hp
        have hN3 : NodeAt ((I, it) :: nw) p x := by
          obtain ⟨⟨h1, h2, kv, o, h3, h4, h5⟩, _, _⟩ := hOc j p x hp hx
          exact ⟨.tail _ h1, h2, kv, o, h3, h4, .tail _ h5⟩
        have hhv := hN3.hand
        by_cases hvn : x.val = .none
        · rw [if_pos hvn] at hold
          (try k_fold)
          k_steps
          (rename News _ _ _ _ => N9)
          have q := turn_led (its := [(I, it)]) N9 hT3 (Step.refl (l := [(I, it)] ++ nw)) hTc hSc hOc (off1 hoff) (iterLed1 hit (by decide))
          exact te_end () (by assumption) (by assumption) q.1 (fun _ hp => nomatch hp) (by (first | (intro z h1 h2 h3; have h4 := ne_true_of_eq_false h3; simp only [List.forall_mem_cons, List.not_mem_nil, false_implies, implies_true, and_true, ne_eq] at h2; (try simp only [List.contains_cons, List.contains_nil, Bool.or_false, Bool.or_eq_false_iff, beq_eq_false_iff_ne, ne_eq] at h3); (repeat first | with_reducible rfl | (refine Eq.trans (kstB_ne ?zqs) ?_; (case zqs => first | exact h1 | exact h2 | exact h2.1 | exact h2.2 | exact h2.2.1 | exact h2.2.2 | exact h2.2.2.1 | exact h2.2.2.2 | exact h3 | exact h3.1 | exact h3.2 | exact h3.2.1 | exact h3.2.2 | exact h4)) | (refine Eq.trans (kstB_nil _ _) ?_) | (refine Eq.trans (if_neg ?zqs) ?_; (case zqs => first | exact h1 | exact h2 | exact h2.1 | exact h2.2 | exact h2.2.1 | exact h2.2.2 | exact h2.2.2.1 | exact h2.2.2.2 | exact h3 | exact h3.1 | exact h3.2 | exact h3.2.1 | exact h3.2.2 | exact h4))); done) | (intro z h1 h2 h3; simp only [List.forall_mem_cons, List.not_mem_nil, false_implies, implies_true, and_true, ne_eq] at h2; (try simp only [List.contains_cons, List.contains_nil, Bool.or_false, Bool.or_eq_false_iff, beq_eq_false_iff_ne, ne_eq] at h3); simp +zetaDelta [kstB, h1, h2, h3]))) ⟨j, _, _, q.2.1, q.2.2.1, q.2.2.2, by omega, rfl, hold⟩
        · rw [if_neg hvn] at hold
          cases hk : x.key with
          | none => rw [hk] at hold; cases hold
          | some k =>
            rw [hk] at hold
            dsimp only at hold
            cases hkb : keyOkB k with
            | false => rw [if_pos hkb] at hold; cases hold
            | true =>
              rw [if_neg (by rw [hkb]; decide)] at hold
              have hok := keyOk_of hkb
              cases hp1 : putBackW nk Tc k x.val with
              | none => rw [hp1] at hold; cases hold
              | some T1 =>
                rw [hp1, Option.bind_some] at hold
                (try k_fold)
                k_steps
                (rename Step Yc _ _ _ => hS9)
                (rename TabIn _ _ _ T1 => hT9)
                (rename News _ _ _ _ => N9)
                have q := turn_led (its := [(I, it)]) N9 hT9 hS9 hTc hSc hOc (off1 hoff) (iterLed1 hit (by decide))
                exact te_end () (by assumption) N9 q.1 (fun _ hp => nomatch hp) (by (first | (intro z h1 h2 h3; have h4 := ne_true_of_eq_false h3; simp only [List.forall_mem_cons, List.not_mem_nil, false_implies, implies_true, and_true, ne_eq] at h2; (try simp only [List.contains_cons, List.contains_nil, Bool.or_false, Bool.or_eq_false_iff, beq_eq_false_iff_ne, ne_eq] at h3); (repeat first | with_reducible rfl | (refine Eq.trans (kstB_ne ?zqs) ?_; (case zqs => first | exact h1 | exact h2 | exact h2.1 | exact h2.2 | exact h2.2.1 | exact h2.2.2 | exact h2.2.2.1 | exact h2.2.2.2 | exact h3 | exact h3.1 | exact h3.2 | exact h3.2.1 | exact h3.2.2 | exact h4)) | (refine Eq.trans (kstB_nil _ _) ?_) | (refine Eq.trans (if_neg ?zqs) ?_; (case zqs => first | exact h1 | exact h2 | exact h2.1 | exact h2.2 | exact h2.2.1 | exact h2.2.2 | exact h2.2.2.1 | exact h2.2.2.2 | exact h3 | exact h3.1 | exact h3.2 | exact h3.2.1 | exact h3.2.2 | exact h4))); done) | (intro z h1 h2 h3; simp only [List.forall_mem_cons, List.not_mem_nil, false_implies, implies_true, and_true, ne_eq] at h2; (try simp only [List.contains_cons, List.contains_nil, Bool.or_false, Bool.or_eq_false_iff, beq_eq_false_iff_ne, ne_eq] at h3); simp +zetaDelta [kstB, h1, h2, h3]))) ⟨j, _, _, q.2.1, q.2.2.1, q.2.2.2, by omega, rfl, hold⟩
      case done =>
        clear lF lN lI hTc hSc hOc hNl2 hNlm
        rintro _ u nw hh tk ⟨i, Yc, Tc, hTc, hSc, hOc, hi, hri, hold⟩ F N
        have hi0 : i = 0 := by
          have := congrArg List.length hri
          rw [List.length_reverse, List.length_map, List.length_take, hT.len] at this
          simp only [List.length_nil] at this
          omega
        subst hi0
        rw [List.take_zero, List.reverse_nil, oldW] at hold
        obtain rfl := Option.some.inj hold
        (try k_fold)
        k_steps
        exact hret _ _ _ _ (by k_asm) (by k_asm) ⟨rfl, _, by assumption, (hSc.trans (by assumption)).sub hl0⟩
theorem resize_binds {w : World} {o : Obj} {P : FuncData → Prop} (h : ∃ o2 : Obj, (Mine.hd.heap_1 w.params).lookup 330 = some o2 ∧ ∀ fd, o2.data = .func fd → P fd) (ho : (Mine.hd.heap_1 w.params).lookup 330 = some o) {fd : FuncData} (hd : o.data = .func fd) : P fd := by
  obtain ⟨o2, h1, h2⟩ := h
  rw [h1] at ho
  exact h2 fd (Option.some.inj ho ▸ hd)
theorem resize_spec (w : World) (nk : NK) (c : Nat) (S : NKS w nk c) (t : Addr) (Y : Lay) (T : Tab) (az hz : Int) (ta th : Tok) (T' : Tab) (h : resizeW nk T az hz = some T') : Spec w 330 [.ref t, .int az ta, .int hz th, .none] (c + 20) (fun nw => TabIn nw t Y T) (TabNew t Y T') := by
  refine resize_any w nk c S t Y T az hz ta th T' h _ fun s o fd X ho hd => ?_
  refine resize_binds (P := fun fd => BindsTo s fd _ _) ⟨_, by k_is, fun fd e => ?_⟩ ho hd
  cases e
  exact binds_K X rfl (by k_is) rfl rfl rfl
theorem resize_spec3 (w : World) (nk : NK) (c : Nat) (S : NKS w nk c) (t : Addr) (Y : Lay) (T : Tab) (az hz : Int) (ta th : Tok) (T' : Tab) (h : resizeW nk T az hz = some T') : Spec w 330 [.ref t, .int az ta, .int hz th] (c + 20) (fun nw => TabIn nw t Y T) (TabNew t Y T') := by
  refine resize_any w nk c S t Y T az hz ta th T' h _ fun s o fd X ho hd => ?_
  refine resize_binds (P := fun fd => BindsTo s fd _ _) ⟨_, by k_is, fun fd e => ?_⟩ ho hd
  cases e
  exact binds_K X rfl (by k_is) rfl rfl rfl

end
section
theorem wd_P20_0 : True := by
  k_with_none
  exact trivial
theorem wd_P20_35 : True := by
  k_with "KD" => first | exact dlt (by assumption) (by first | decide | omega) | exact dlt1 (by assumption) (by first | decide | omega) | exact dlt0 (by assumption) | ktr_room
  k_with "KU" => first | exact ult (by assumption) (by first | decide | omega) | ktr_units
  k_with "ENTER" => (refine' enter_ ?zqk1 ?zqk2 ?zqk3 ?zqk4 ?zqk5 ?zqkA ?zqkF ?zqkK ?zqk6 ?zqk7 ?zqk8 ?zqk9 ?zqkB ?_ ?zqc2 ?zqc3 ?zqc4 ?zqc5; (case zqkA => exact rfl); (case zqkF => exact rfl); (case zqkK => first | exact rfl | assumption); (case zqk1 => k_asm); (case zqk2 => k_asm); (case zqk3 => k_asm); (case zqk4 => k_asm); (case zqk5 => k_asm); (case zqk6 => k_is); (case zqk7 => k_is); (case zqk8 => walk_at "KD"); (case zqk9 => first | exact BindsTo.of_eq rfl | exact binds_K (by k_in) rfl (by k_is) rfl rfl rfl | fail "ENTER: no rule for these arguments"); (case zqc5 => decide); (case zqkB => exact locs rfl); (case zqc2 => exact rfl); (case zqc3 => exact rfl); (case zqc4 => exact rfl); k_whole; intro g' L' h' tk' FG' mm F' N' B' X' T' qk ek)
  k_with "call ref" => (k_here; k_dflt (first | (refine' call_cls0 ?zqk1 ?zqk2 ?zqk3 ?zqk4 ?zqk5 ?_; (case zqk1 => k_asm); (case zqk2 => k_asm); (case zqk3 => k_asm); (case zqk4 => k_is); (case zqk5 => k_is); k_whole; intro x' d' h' F' N' l1 l2; (try k_lt l1); (try k_lt2 l2); (try k_sweep)) | (refine' call_cls ?zqk1 ?zqk2 ?zqk3 ?zqk4 ?zqk5 ?zqk6 ?_; (case zqk1 => k_asm); (case zqk2 => k_asm); (case zqk3 => k_asm); (case zqk4 => k_is); (case zqk5 => k_is); (case zqk6 => k_is); k_whole; intro x' d' h' F' N' l1 l2; (try k_lt l1); (try k_lt2 l2); (try k_sweep); walk_at "ENTER") | (refine' call_meth ?zqk1 ?zqk2 ?_; (case zqk1 => k_asm); (case zqk2 => k_mem); k_whole; walk_at "ENTER") | (refine wpAny_call ?_; walk_at "ENTER")))
  k_with "call builtin:len" => (k_here; (with_reducible show wpAny _ _ (call (Value.builtin "len") [Value.ref _]) _ _ _); k_dflt (refine' kst_len ?zqk1 ?zqk2 ?zqk3 ?zqk4 ?_; (case zqk1 => k_asm); (case zqk2 => k_mem); (case zqk3 => first | assumption | exact rfl); (case zqk4 => omega); k_whole))
  k_with "WhileStep2" => (first | (with_reducible show WhileStep2 _ _ _ _ _ _ (Flow.ret _) _) | (with_reducible show WhileStep2 _ _ _ _ _ _ Flow.brk _)); (dsimp only [WhileStep2])
  k_with "execs cons" => (k_here; refine wpAny_execs_cons (foldQ ?_); intro qs)
  k_with "storeName" => (k_here; (try dsimp only); k_dflt (refine' store_ ?zqF ?zqN ?_ ?zqa ?zqb; (case zqF => k_asm); (case zqN => k_asm); (case zqa => first | exact rfl | assumption); (case zqb => rfl); k_whole; intro h' tk' mm F' N'; (try k_sweep)))
  k_with "exec While Compare cons nil" => refine Halt.go ?_
  k_with "pyIter ref" => refine Halt.go ?_
  k_with "call type:enumerate" => refine Halt.go ?_
  k_with "KswEnd" => refine Halt.at (k := "KswEnd") (by assumption) ?_
  k_with "subscriptTail" => refine Halt.at (k := "subscriptTail") (by assumption) ?_
  k_with "eval ListComp" => refine Halt.at (k := "eval ListComp") (by assumption) ?_
  k_with "CompSrc" => refine Halt.at (k := "CompSrc") (by assumption) ?_
  k_with "CompEnd" => refine Halt.at (k := "CompEnd") (by assumption) ?_
  k_with "call ref" => refine Halt.at (k := "call ref") (by assumption) ?_
  k_with "call builtin:sorted" => refine Halt.at (k := "call builtin:sorted") (by assumption) ?_
  k_with "call builtin:repr" => refine Halt.at (k := "call builtin:repr") (by assumption) ?_
  k_with "unpackItems ref" => refine Halt.at (k := "unpackItems ref") (by assumption) ?_
  k_with "compareOp Eq ref ref" => refine Halt.at (k := "compareOp Eq ref ref") (by assumption) ?_
  k_with "call type:str" => refine Halt.at (k := "call type:str") (by assumption) ?_
  k_with "K4" => ((case zqk1 => k_asm); (case zqk2 => k_asm); (case zqk3 => k_asm); (case zqk4 => k_asm))
  k_with "K56" => ((case zqk5 => first | assumption | (with_unfolding_all assumption)); (case zqk6 => first | assumption | (with_unfolding_all assumption)))
  k_with "KN" => (k_whole; intro h' tj' n' F' N' hT' hK'; (try dsimp only); (try k_sweep))
  k_with "getAttr ref" => (k_here; (with_reducible show wpAny _ _ (getAttr (Value.ref _) (PySem.Str.ofString "free") _) _ _ _); k_dflt (refine' get_free ?zqk1 ?zqk2 ?zqk3 ?zqk4 ?_; walk_at "K4"; k_whole; intro tk' tj'; (try dsimp only)))
  k_with "getAttr ref" => (k_here; (with_reducible show wpAny _ _ (getAttr (Value.ref _) (PySem.Str.ofString "size") _) _ _ _); k_dflt (refine' get_size ?zqk1 ?zqk2 ?zqk3 ?zqk4 ?_; walk_at "K4"; k_whole; intro tk' tj'; (try dsimp only)))
  k_with "getAttr ref" => (k_here; (with_reducible show wpAny _ _ (getAttr (Value.ref _) (PySem.Str.ofString "array") _) _ _ _); k_dflt (refine' get_array ?zqk1 ?zqk2 ?zqk3 ?zqk4 ?_; walk_at "K4"; k_whole; intro tj'; (try dsimp only)))
  k_with "getAttr ref" => (k_here; (with_reducible show wpAny _ _ (getAttr (Value.ref _) (PySem.Str.ofString "nodes") _) _ _ _); k_dflt (refine' get_nodes ?zqk1 ?zqk2 ?zqk3 ?zqk4 ?_; walk_at "K4"; k_whole; intro tj'; (try dsimp only)))
  k_with "getAttr ref" => (k_here; (with_reducible show wpAny _ _ (getAttr (Value.ref _) (PySem.Str.ofString "key") _) _ _ _); k_dflt (first | (refine' get_key_none ?zqk1 ?zqk2 ?zqk3 ?zqk4 ?zqk5 ?zqk6 ?zqk7 ?_; walk_at "K4"; walk_at "K56"; (case zqk7 => assumption); k_whole; intro tj'; (try dsimp only)) | (refine' get_key_some ?zqk1 ?zqk2 ?zqk3 ?zqk4 ?zqk5 ?zqk6 ?zqk7 ?_; walk_at "K4"; walk_at "K56"; (case zqk7 => assumption); k_whole; intro kv' tj' hkv'; (try dsimp only)) | (refine' get_key_any ?zqk1 ?zqk2 ?zqk3 ?zqk4 ?zqk5 ?zqk6 ?_; walk_at "K4"; walk_at "K56"; k_whole; intro kv' tj' hkv'; (try dsimp only))))
  k_with "getAttr ref" => (k_here; (with_reducible show wpAny _ _ (getAttr (Value.ref _) (PySem.Str.ofString "value") _) _ _ _); k_dflt (refine' get_value ?zqk1 ?zqk2 ?zqk3 ?zqk4 ?zqk5 ?zqk6 ?_; walk_at "K4"; walk_at "K56"; k_whole; intro tj'; (try dsimp only)))
  k_with "getAttr ref" => (k_here; (with_reducible show wpAny _ _ (getAttr (Value.ref _) (PySem.Str.ofString "next") _) _ _ _); k_dflt (refine' get_next ?zqk1 ?zqk2 ?zqk3 ?zqk4 ?zqk5 ?zqk6 ?_; walk_at "K4"; walk_at "K56"; k_whole; intro tk' tj'; (try dsimp only)))
  k_with "setAttr ref" => (k_here; (with_reducible show wpAny _ _ (setAttr (Value.ref _) (PySem.Str.ofString "free") _) _ _ _); k_dflt (refine' set_free ?zqk1 ?zqk2 ?zqk3 ?zqk4 ?_; walk_at "K4"; walk_at "KN"))
  k_with "setAttr ref" => (k_here; (with_reducible show wpAny _ _ (setAttr (Value.ref _) (PySem.Str.ofString "size") _) _ _ _); k_dflt (refine' set_size ?zqk1 ?zqk2 ?zqk3 ?zqk4 ?_; walk_at "K4"; walk_at "KN"))
  k_with "setAttr ref" => (k_here; (with_reducible show wpAny _ _ (setAttr (Value.ref _) (PySem.Str.ofString "flags") _) _ _ _); k_dflt (refine' set_flags ?zqk1 ?zqk2 ?zqk3 ?zqk4 ?_; walk_at "K4"; walk_at "KN"))
  k_with "setAttr ref" => (k_here; (with_reducible show wpAny _ _ (setAttr (Value.ref _) (PySem.Str.ofString "log_nodes") _) _ _ _); k_dflt (refine' set_log_nodes ?zqk1 ?zqk2 ?zqk3 ?zqk4 ?_; walk_at "K4"; walk_at "KN"))
  k_with "setAttr ref" => (k_here; (with_reducible show wpAny _ _ (setAttr (Value.ref _) (PySem.Str.ofString "key") _) _ _ _); k_dflt (refine' set_key ?zqk1 ?zqk2 ?zqk3 ?zqk4 ?zqk5 ?zqk6 ?zqk7 ?_; walk_at "K4"; walk_at "K56"; (case zqk7 => first | assumption | exact KV.none); walk_at "KN"))
  k_with "setAttr ref" => (k_here; (with_reducible show wpAny _ _ (setAttr (Value.ref _) (PySem.Str.ofString "value") _) _ _ _); k_dflt (refine' set_value ?zqk1 ?zqk2 ?zqk3 ?zqk4 ?zqk5 ?zqk6 ?zqk7 ?_; walk_at "K4"; walk_at "K56"; (case zqk7 => first | assumption | rfl); walk_at "KN"))
  k_with "setAttr ref" => (k_here; (with_reducible show wpAny _ _ (setAttr (Value.ref _) (PySem.Str.ofString "next") _) _ _ _); k_dflt (refine' set_next ?zqk1 ?zqk2 ?zqk3 ?zqk4 ?zqk5 ?zqk6 ?_; walk_at "K4"; walk_at "K56"; walk_at "KN"))
  k_with "getMethod ref" => (k_here; (with_reducible show wpAny _ _ (getMethod (Value.ref _) _ _) _ _ _); k_dflt (refine' tab_meth ?zqk1 ?zqk2 ?zqk3 ?zqk4 ?zqk5 ?zqk6 ?zqk7 ?zqk8 ?_; walk_at "K4"; (case zqk5 => k_is); (case zqk6 => k_is); (case zqk7 => k_is); (case zqk8 => decide +kernel); k_whole))
  k_with "call builtin:len" => (k_here; (with_reducible show wpAny _ _ (call (Value.builtin "len") [Value.ref _]) _ _ _); k_dflt (first | (refine' len_nodes ?zqk3 ?zqk4 ?_; (case zqk3 => k_asm); (case zqk4 => k_asm); k_whole; intro tk' tj'; (try dsimp only)) | (refine' len_arr ?zqk3 ?zqk4 ?_; (case zqk3 => k_asm); (case zqk4 => k_asm); k_whole; intro tk' tj'; (try dsimp only))))
  k_with "subscriptTail" => (k_here; (with_reducible show wpAny _ _ (subscriptTail _ _ (Value.ref _) (Value.int _ _)) _ _ _); k_dflt (first | (refine' item_node ?zqk3 ?zqk4 ?zqk5 ?zqk6 ?_ ?zqk7; (case zqk3 => k_asm); (case zqk4 => k_asm); (case zqk5 => assumption); (case zqk6 => first | assumption | omega); (case zqk7 => with_unfolding_all rfl); k_whole) | (refine' item_arr ?zqk3 ?zqk4 ?zqk5 ?zqk6 ?_ ?zqk7; (case zqk3 => k_asm); (case zqk4 => k_asm); (case zqk5 => assumption); (case zqk6 => first | assumption | omega); (case zqk7 => with_unfolding_all rfl); k_whole)))
  k_with "setItem ref int" => (k_here; (with_reducible show wpAny _ _ (setItem (Value.ref _) (Value.int _ _) _) _ _ _); k_dflt (refine' set_arr ?zqk1 ?zqk3 ?zqk4 ?zqk5 ?zqk6 ?_; (case zqk1 => k_asm); (case zqk3 => k_asm); (case zqk4 => k_asm); (case zqk5 => omega); (case zqk6 => (try dsimp only); omega); k_whole; intro h' n' F' N' hT' hK'; (try dsimp only); (try k_sweep)))
  k_with "call builtin:list.append" => (k_here; (with_reducible show wpAny _ _ (call (Value.builtin _) [Value.ref _, _]) _ _ _); k_dflt (refine' app_arr ?zqk1 ?zqk3 ?zqk4 ?zqk5 ?_; (case zqk1 => k_asm); (case zqk3 => k_asm); (case zqk4 => k_asm); (case zqk5 => (try dsimp only); omega); k_whole; intro h' n' F' N' hT' hK'; (try dsimp only); (try k_sweep)))
  k_with "compareOp Is" => (k_here; (with_reducible show wpAny _ _ (compareOp CmpOp.Is _ Value.none) _ _ _); k_dflt (refine' kv_isnone ?zqk1 ?_; (case zqk1 => assumption); k_whole))
  k_with "exec For Name Name cons nil" => (k_here; (rename Fr _ _ _ _ => lF'); (with_unfolding_all refine' For_invVF lF' ?zqk1 ?zqk2 ?_; (case zqk1 => exact rfl); (case zqk2 => exact rfl); k_whole))
  k_with "exec For Name Call cons nil" => (k_here; (rename Fr _ _ _ _ => lF'); (with_unfolding_all refine' For_invVF lF' ?zqk1 ?zqk2 ?_; (case zqk1 => exact rfl); (case zqk2 => exact rfl); k_whole))
  k_with "exec For Name Attribute cons nil" => (k_here; (rename Fr _ _ _ _ => lF'); (with_unfolding_all refine' For_invVF lF' ?zqk1 ?zqk2 ?_; (case zqk1 => exact rfl); (case zqk2 => exact rfl); k_whole))
  k_with "TP" => ((first | (with_reducible show Mine.TP _ _ _ _ _ _ (Flow.ret _) _) | (with_reducible show Mine.TP _ _ _ _ _ _ Flow.brk _) | (with_reducible show Mine.TP _ _ _ _ _ _ Flow.next _) | (with_reducible show Mine.TP _ _ _ _ _ _ Flow.cont _)); (dsimp only [Mine.TP]))
  k_with "compareOp Is" => (k_here; (with_reducible show wpAny _ _ (compareOp CmpOp.Is _ Value.none) _ _ _); k_dflt (first | (refine' is_eq ?zqk1 ?_; (case zqk1 => assumption); k_whole) | (refine' is_ne ?zqk1 ?_; (case zqk1 => assumption); k_whole)))
  k_with "compareOp IsNot" => (k_here; (with_reducible show wpAny _ _ (compareOp CmpOp.IsNot _ Value.none) _ _ _); k_dflt (first | (refine' isnot_eq ?zqk1 ?_; (case zqk1 => assumption); k_whole) | (refine' isnot_ne ?zqk1 ?_; (case zqk1 => assumption); k_whole)))
  k_with "getItem ref int" => (k_here; (with_reducible show wpAny _ _ (getItem (Value.ref _) (Value.int _ _)) _ _ _); k_dflt (refine' get_cnt ?zqk3 ?zqk4 ?zqk5 ?zqk6 ?zqk7 ?_; (case zqk3 => k_asm); (case zqk4 => k_asm); (case zqk5 => omega); (case zqk6 => omega); (case zqk7 => omega); k_whole; intro tk'))
  k_with "subscriptTail" => (k_here; (with_reducible show wpAny _ _ (subscriptTail _ _ (Value.ref _) (Value.int _ _)) _ _ _); k_dflt (refine' sub_cnt ?zqk3 ?zqk4 ?zqk5 ?zqk6 ?zqk7 ?_ ?zqk8; (case zqk3 => k_asm); (case zqk4 => k_asm); (case zqk5 => omega); (case zqk6 => omega); (case zqk7 => omega); (case zqk8 => with_unfolding_all rfl); k_whole; intro tk'))
  k_with "setItem ref int" => (k_here; (with_reducible show wpAny _ _ (setItem (Value.ref _) (Value.int _ _) (Value.int _ _)) _ _ _); k_dflt (refine' set_cnt ?zqk1 ?zqk3 ?zqk4 ?zqk5 ?zqk6 ?zqk7 ?_; (case zqk1 => k_asm); (case zqk3 => k_asm); (case zqk4 => k_asm); (case zqk5 => omega); (case zqk6 => omega); (case zqk7 => omega); k_whole; intro h' n' F' N' hC' hK'; (try dsimp only); (try k_sweep)))
  exact trivial

theorem Spec.mono {w : World} {f : Addr} {args : List Value} {cost : Nat} {P P' : Led → Prop} {R R' : Led → Value → Led → Prop} (S : Spec w f args cost P R) (hP : ∀ n, P' n → P n)
    (hR : ∀ (h₀ h : Heap) (L : Addr) n n' r, News h₀ L h n → P' n → R n r n' → R' n r n') : Spec w f args cost P' R' := by
  intro mean mg mb dp un gd cn cs a ccd cl outer A₀ base h₀ L m news s Q E B F X N TP hk hP' hd hu hret
  exact S mean mg mb dp un gd cn cs a ccd cl outer A₀ base h₀ L m news s Q E B F X N TP hk (hP _ hP') hd hu fun r h' tk' news' F' N' r' => hret r h' tk' news' F' N' (hR _ _ _ _ _ _ N hP' r')
theorem caLoop_len (arr : List Value) (n st a lim : Nat) (t : Int) (ns : List Int) : (caLoop arr n st a lim t ns).2.length = ns.length := by
  induction n generalizing st a lim t ns with
  | zero => rfl
  | succ n ih =>
    rw [caLoop]
    split
    · rfl
    · rw [ih, List.length_set]
theorem cnLoop_len {nodes : List PNode} {t wh : Int} {ns : List Int} {r : Int × Int × List Int} (h : cnLoop nodes t wh ns = some r) : r.2.2.length = ns.length := by
  induction nodes generalizing t wh ns with
  | nil => cases h; rfl
  | cons x l ih =>
    rw [cnLoop] at h
    split at h
    · exact ih h
    · split at h
      · cases h
      · rw [ih h, countKey_len]
theorem TabIn.nl_lt {l : Led} {t x : Addr} {Y : Lay} {T : Tab} (hT : TabIn l t Y T) (h : ∀ p ∈ l, p.1 < x) : Y.nl ≠ x := by
  obtain ⟨c, hm⟩ := hT.nds; exact Nat.ne_of_lt (h _ hm)
theorem Spec.pull {w : World} {f : Addr} {args : List Value} {cost : Nat} {P : Led → Prop} {R : Led → Value → Led → Prop} {p : Prop} (S : p → Spec w f args cost P R) : Spec w f args cost (fun n => P n ∧ p) R := by
  intro mean mg mb dp un gd cn cs a ccd cl outer A₀ base h₀ L m news s Q E B F X N TP hk hP hd hu hret
  exact S hP.2 mean mg mb dp un gd cn cs a ccd cl outer A₀ base h₀ L m news s Q E B F X N TP hk hP.1 hd hu hret
noncomputable def CntOk (ns : List Int) (l : Addr) (Y : Lay) : Prop := ns.length = 27 ∧ Y.al ≠ l ∧ Y.nl ≠ l
theorem countkeyT_spec (w : World) {kv : Value} {k : PKey} (t l : Addr) (Y : Lay) (T : Tab) (ns : List Int) (hkv : KV kv (some k)) : Spec w 202 [kv, .ref l] 10 (fun nw => (TabIn nw t Y T ∧ ListAt l ns nw) ∧ CntOk ns l Y)
    (fun n0 r n1 => TabIn n1 t Y T ∧ ListAt l (countKey k ns).2 n1 ∧ KeepBut l n0 n1 ∧ ∃ t, r = .int (countKey k ns).1 t) :=
  Spec.pull fun h9 => (countkey_spec w l ns hkv h9.1).mono (fun _ h => h.2) fun h₀ h L n n' r N hP hR => ⟨TabIn.but N hP.1 hP.2 hR.2.2 h9.2.1 h9.2.2, hR.2.1, hR.2.2, hR.1⟩
theorem countarrT_spec (w : World) (t l : Addr) (Y : Lay) (T : Tab) (ns : List Int) : Spec w 308 [.ref t, .ref l] 6 (fun nw => (TabIn nw t Y T ∧ ListAt l ns nw) ∧ CntOk ns l Y)
    (fun n0 r n1 => TabIn n1 t Y T ∧ ListAt l (caLoop T.arr 27 0 0 1 0 ns).2 n1 ∧ KeepBut l n0 n1 ∧ ∃ tk, r = .int (caLoop T.arr 27 0 0 1 0 ns).1 tk) :=
  Spec.pull fun h9 => countarr_spec w t l Y T ns h9.1 h9.2.1 h9.2.2
theorem countnodesT_spec (w : World) (t l : Addr) (Y : Lay) (T : Tab) (ns ns' : List Int) (tot wh : Int) (hr : cnLoop T.nodes 0 0 ns = some (tot, wh, ns')) : Spec w 315 [.ref t, .ref l] 14 (fun nw => (TabIn nw t Y T ∧ ListAt l ns nw) ∧ CntOk ns l Y)
    (fun n0 r n1 => TabIn n1 t Y T ∧ ListAt l ns' n1 ∧ KeepBut l n0 n1 ∧ ∃ P t1 t2, r = .ref P ∧ (P, tupObj [.int tot t1, .int wh t2]) ∈ n1 ∧ ∀ p ∈ n0, p.1 ≠ P) :=
  Spec.pull fun h9 => countnodes_spec w t l Y T ns ns' tot wh h9.1 hr h9.2.1 h9.2.2
theorem sizesT_spec (w : World) (t l : Addr) (Y : Lay) (T : Tab) (ns : List Int) (wanted : Int) (tk : Tok) : Spec w 195 [.ref l, .int wanted tk] 3 (fun nw => TabIn nw t Y T ∧ ListAt l ns nw)
    (fun n0 r n1 => TabIn n1 t Y T ∧ (∀ p ∈ n0, p ∈ n1) ∧ ∃ P t1 t2, r = .ref P ∧ (P, tupObj [.int (csLoop wanted ns 0 0 0 1).1 t1, .int (csLoop wanted ns 0 0 0 1).2 t2]) ∈ n1) :=
  (sizes_spec w l ns wanted tk).mono (fun _ h => h.2) fun h₀ h L n n' r N hP hR => by
    obtain ⟨P, t1, t2, rfl, rfl, hlt⟩ := hR
    exact ⟨hP.1.mono fun p hp => .tail _ hp, fun p hp => .tail _ hp, P, t1, t2, rfl, .head _⟩
theorem start_counts {h₀ h : Heap} {L t D : Addr} {a : Addr × Obj} {news : Led} {Y : Lay} {T : Tab} {vs : List Value} {c : Nat} {ns : List Int} (N : News h₀ L h ((D, listOf vs.toArray c) :: a :: news)) (hT : TabIn news t Y T) (i1 : IntsAre vs ns) (e : ns = List.replicate 27 0) (hlt : ∀ p ∈ news, p.1 < D) :
    TabIn ((D, listOf vs.toArray c) :: a :: news) t Y T ∧ ListAt D (List.replicate 27 0) ((D, listOf vs.toArray c) :: a :: news) ∧ Y.al ≠ D ∧ Y.nl ≠ D :=
  ⟨hT.mono fun p hp => .tail _ (.tail _ hp), ⟨_, _, e ▸ i1, .head _⟩, hT.al_lt hlt, hT.nl_lt hlt⟩
theorem chain_counts {D : Addr} {a b : Addr × Obj} {news n1 n2 n3 n4 n' : Led} {Y Y9 : Lay} (S : Step Y n4 Y9 n') (k4 : ∀ p ∈ n3, p ∈ n4) (k3 : KeepBut D n2 n3) (k2 : KeepBut D n1 n2) (k1 : KeepBut D (a :: b :: news) n1) (hlt : ∀ p ∈ news, p.1 < D) : Step Y news Y9 n' :=
  S.sub fun p hp => k4 _ (k3 _ (k2 _ (k1 _ (.tail _ (.tail _ hp)) (Nat.ne_of_lt (hlt p hp))) (Nat.ne_of_lt (hlt p hp))) (Nat.ne_of_lt (hlt p hp)))
theorem wd_P20_36 : True := by
  k_with "call ref" => (k_here; k_dflt ((refine' Spec.useK (countarrT_spec _ _ _ _ _ _) ?zqk1 ?zqk2 ?zqk3 ?zqk4 ?zqk5 ?zqkK ?zqkP ?zqkd ?zqku ?zqC ?_; (case zqk1 => k_asm); (case zqk2 => k_asm); (case zqk3 => k_asm); (case zqk4 => k_asm); (case zqk5 => k_asm); (case zqkK => first | exact rfl | assumption); (case zqkP => (exact ⟨⟨by assumption, by assumption⟩, by assumption, by assumption, by assumption⟩)); (case zqkd => walk_at "KD"); (case zqku => walk_at "KU"); (case zqC => (intro G c r' n' R'; obtain ⟨hT9, hC9, hK9, t9, e9⟩ := R'; subst e9; revert n' hT9 hC9 hK9 t9; exact c)); k_whole; intro n' hT9 hC9 hK9 t9 h' tk' F' N'); (try dsimp only); (try k_sweep)))
  k_with "call ref" => (k_here; k_dflt ((refine' Spec.useK (countnodesT_spec _ _ _ _ _ _ _ _ _ (by assumption)) ?zqk1 ?zqk2 ?zqk3 ?zqk4 ?zqk5 ?zqkK ?zqkP ?zqkd ?zqku ?zqC ?_; (case zqk1 => k_asm); (case zqk2 => k_asm); (case zqk3 => k_asm); (case zqk4 => k_asm); (case zqk5 => k_asm); (case zqkK => first | exact rfl | assumption); (case zqkP => (exact ⟨⟨by assumption, by assumption⟩, by assumption, by assumption, by assumption⟩)); (case zqkd => walk_at "KD"); (case zqku => walk_at "KU"); (case zqC => (intro G c r' n' R'; obtain ⟨hT9, hC9, hK9, P9, t9, t8, e9, hP9, hP8⟩ := R'; subst e9; revert n' hT9 hC9 hK9 P9 t9 t8 hP9 hP8; exact c)); k_whole; intro n' hT9 hC9 hK9 P9 t9 t8 hP9 hP8 h' tk' F' N'); (try dsimp only); (try k_sweep)))
  k_with "call ref" => (k_here; k_dflt ((refine' Spec.useK (countkeyT_spec _ _ _ _ _ _ (by assumption)) ?zqk1 ?zqk2 ?zqk3 ?zqk4 ?zqk5 ?zqkK ?zqkP ?zqkd ?zqku ?zqC ?_; (case zqk1 => k_asm); (case zqk2 => k_asm); (case zqk3 => k_asm); (case zqk4 => k_asm); (case zqk5 => k_asm); (case zqkK => first | exact rfl | assumption); (case zqkP => (exact ⟨⟨by assumption, by assumption⟩, by assumption, by assumption, by assumption⟩)); (case zqkd => walk_at "KD"); (case zqku => walk_at "KU"); (case zqC => (intro G c r' n' R'; obtain ⟨hT9, hC9, hK9, t9, e9⟩ := R'; subst e9; revert n' hT9 hC9 hK9 t9; exact c)); k_whole; intro n' hT9 hC9 hK9 t9 h' tk' F' N'); (try dsimp only); (try k_sweep)))
  k_with "call ref" => (k_here; k_dflt ((refine' Spec.useK (sizesT_spec _ _ _ _ _ _ _ _) ?zqk1 ?zqk2 ?zqk3 ?zqk4 ?zqk5 ?zqkK ?zqkP ?zqkd ?zqku ?zqC ?_; (case zqk1 => k_asm); (case zqk2 => k_asm); (case zqk3 => k_asm); (case zqk4 => k_asm); (case zqk5 => k_asm); (case zqkK => first | exact rfl | assumption); (case zqkP => (exact ⟨by assumption, by assumption⟩)); (case zqkd => walk_at "KD"); (case zqku => walk_at "KU"); (case zqC => (intro G c r' n' R'; obtain ⟨hT9, hK8, P9, t9, t8, e9, hP9⟩ := R'; subst e9; revert n' hT9 hK8 P9 t9 t8 hP9; exact c)); k_whole; intro n' hT9 hK8 P9 t9 t8 hP9 h' tk' F' N'); (try dsimp only); (try k_sweep)))
  k_with "call ref" => (k_here; k_dflt ((refine' Spec.useT (resize_spec _ _ _ (by assumption) _ _ _ _ _ _ _ _ (by assumption)) ?zqk1 ?zqk2 ?zqk3 ?zqk4 ?zqk5 ?zqkK ?zqkP ?zqkd ?zqku ?_; (case zqk1 => k_asm); (case zqk2 => k_asm); (case zqk3 => k_asm); (case zqk4 => k_asm); (case zqk5 => k_asm); (case zqkK => first | exact rfl | assumption); (case zqkP => assumption); (case zqkd => walk_at "KD"); (case zqku => walk_at "KU"); k_whole; intro h' tk' n' Y9 F' N' hT9 hS9); (try dsimp only); (try k_sweep)))
  exact trivial
set_option maxRecDepth 100000 in
set_option maxHeartbeats 8000000 in
theorem rehash_spec (w : World) (nk : NK) (c : Nat) (S : NKS w nk c) (t : Addr) (Y : Lay) (T : Tab) (kv : Value) (k : PKey) (T' : Tab) (hkv : KV kv (some k)) (h : rehashW nk T k = some T') : Spec w 322 [.ref t, kv, .none] (c + 40) (fun nw => TabIn nw t Y T) (TabNew t Y T') := by
  unfold Spec
  k_fill
  intro mean mg mb dp un gd cn cs a ccd cl outer A₀ base h₀ L m news s Q E B F X N TP hk hP hd hu hret
  w_top on
  w_on
  rename TabIn _ _ _ _ => hT
  rw [rehashW] at h
  have hl1 : (caLoop T.arr 27 0 0 1 0 (List.replicate 27 0)).2.length = 27 := by rw [caLoop_len]; rfl
  cases hcn : cnLoop T.nodes 0 0 (caLoop T.arr 27 0 0 1 0 (List.replicate 27 0)).2 with
  | none => rw [hcn] at h; cases h
  | some q =>
  obtain ⟨tot, wh, ns'⟩ := q
  rw [hcn, Option.bind_some] at h
  dsimp only at h
  have hl2 : ns'.length = 27 := (cnLoop_len hcn).trans hl1
  have hl3 : (countKey k ns').2.length = 27 := (countKey_len k ns').trans hl2
  k_steps
  (rename IntsAre _ _ => i1)
  (rename _ ∧ AllLt _ news => l1)
  have hlt := tb_ltOf l1.2
  (rename Fr _ _ _ _ => lF); (rename News _ _ _ _ => lN)
  obtain ⟨hT2, hC2, hal, hnl⟩ := start_counts lN hT i1 (by decide) hlt
  have hl0 : (List.replicate 27 (0 : Int)).length = 27 := rfl
  clear hT
  (try k_fold)
  k_steps
  exact hret _ _ _ _ (by k_asm) (by k_asm) ⟨rfl, _, by assumption, chain_counts (by assumption) (by assumption) (by assumption) (by assumption) (by assumption) hlt⟩

end
section
theorem wd_P21_0 : True := by
  k_with_none
  exact trivial
theorem wd_P21_37 : True := by
  k_with "KD" => first | exact dlt (by assumption) (by first | decide | omega) | exact dlt1 (by assumption) (by first | decide | omega) | exact dlt0 (by assumption) | ktr_room
  k_with "KU" => first | exact ult (by assumption) (by first | decide | omega) | ktr_units
  k_with "ENTER" => (refine' enter_ ?zqk1 ?zqk2 ?zqk3 ?zqk4 ?zqk5 ?zqkA ?zqkF ?zqkK ?zqk6 ?zqk7 ?zqk8 ?zqk9 ?zqkB ?_ ?zqc2 ?zqc3 ?zqc4 ?zqc5; (case zqkA => exact rfl); (case zqkF => exact rfl); (case zqkK => first | exact rfl | assumption); (case zqk1 => k_asm); (case zqk2 => k_asm); (case zqk3 => k_asm); (case zqk4 => k_asm); (case zqk5 => k_asm); (case zqk6 => k_is); (case zqk7 => k_is); (case zqk8 => walk_at "KD"); (case zqk9 => first | exact BindsTo.of_eq rfl | exact binds_K (by k_in) rfl (by k_is) rfl rfl rfl | fail "ENTER: no rule for these arguments"); (case zqc5 => decide); (case zqkB => exact locs rfl); (case zqc2 => exact rfl); (case zqc3 => exact rfl); (case zqc4 => exact rfl); k_whole; intro g' L' h' tk' FG' mm F' N' B' X' T' qk ek)
  k_with "call ref" => (k_here; k_dflt (first | (refine' call_cls0 ?zqk1 ?zqk2 ?zqk3 ?zqk4 ?zqk5 ?_; (case zqk1 => k_asm); (case zqk2 => k_asm); (case zqk3 => k_asm); (case zqk4 => k_is); (case zqk5 => k_is); k_whole; intro x' d' h' F' N' l1 l2; (try k_lt l1); (try k_lt2 l2); (try k_sweep)) | (refine' call_cls ?zqk1 ?zqk2 ?zqk3 ?zqk4 ?zqk5 ?zqk6 ?_; (case zqk1 => k_asm); (case zqk2 => k_asm); (case zqk3 => k_asm); (case zqk4 => k_is); (case zqk5 => k_is); (case zqk6 => k_is); k_whole; intro x' d' h' F' N' l1 l2; (try k_lt l1); (try k_lt2 l2); (try k_sweep); walk_at "ENTER") | (refine' call_meth ?zqk1 ?zqk2 ?_; (case zqk1 => k_asm); (case zqk2 => k_mem); k_whole; walk_at "ENTER") | (refine wpAny_call ?_; walk_at "ENTER")))
  k_with "call builtin:len" => (k_here; (with_reducible show wpAny _ _ (call (Value.builtin "len") [Value.ref _]) _ _ _); k_dflt (refine' kst_len ?zqk1 ?zqk2 ?zqk3 ?zqk4 ?_; (case zqk1 => k_asm); (case zqk2 => k_mem); (case zqk3 => first | assumption | exact rfl); (case zqk4 => omega); k_whole))
  k_with "WhileStep2" => (first | (with_reducible show WhileStep2 _ _ _ _ _ _ (Flow.ret _) _) | (with_reducible show WhileStep2 _ _ _ _ _ _ Flow.brk _)); (dsimp only [WhileStep2])
  k_with "execs cons" => (k_here; refine wpAny_execs_cons (foldQ ?_); intro qs)
  k_with "storeName" => (k_here; (try dsimp only); k_dflt (refine' store_ ?zqF ?zqN ?_ ?zqa ?zqb; (case zqF => k_asm); (case zqN => k_asm); (case zqa => first | exact rfl | assumption); (case zqb => rfl); k_whole; intro h' tk' mm F' N'; (try k_sweep)))
  k_with "exec While Compare cons nil" => refine Halt.go ?_
  k_with "pyIter ref" => refine Halt.go ?_
  k_with "call type:enumerate" => refine Halt.go ?_
  k_with "KswEnd" => refine Halt.at (k := "KswEnd") (by assumption) ?_
  k_with "subscriptTail" => refine Halt.at (k := "subscriptTail") (by assumption) ?_
  k_with "eval ListComp" => refine Halt.at (k := "eval ListComp") (by assumption) ?_
  k_with "CompSrc" => refine Halt.at (k := "CompSrc") (by assumption) ?_
  k_with "CompEnd" => refine Halt.at (k := "CompEnd") (by assumption) ?_
  k_with "call ref" => refine Halt.at (k := "call ref") (by assumption) ?_
  k_with "call builtin:sorted" => refine Halt.at (k := "call builtin:sorted") (by assumption) ?_
  k_with "call builtin:repr" => refine Halt.at (k := "call builtin:repr") (by assumption) ?_
  k_with "unpackItems ref" => refine Halt.at (k := "unpackItems ref") (by assumption) ?_
  k_with "compareOp Eq ref ref" => refine Halt.at (k := "compareOp Eq ref ref") (by assumption) ?_
  k_with "call type:str" => refine Halt.at (k := "call type:str") (by assumption) ?_
  k_with "K4" => ((case zqk1 => k_asm); (case zqk2 => k_asm); (case zqk3 => k_asm); (case zqk4 => k_asm))
  k_with "K56" => ((case zqk5 => first | assumption | (with_unfolding_all assumption)); (case zqk6 => first | assumption | (with_unfolding_all assumption)))
  k_with "KN" => (k_whole; intro h' tj' n' F' N' hT' hK'; (try dsimp only); (try k_sweep))
  k_with "getAttr ref" => (k_here; (with_reducible show wpAny _ _ (getAttr (Value.ref _) (PySem.Str.ofString "free") _) _ _ _); k_dflt (refine' get_free ?zqk1 ?zqk2 ?zqk3 ?zqk4 ?_; walk_at "K4"; k_whole; intro tk' tj'; (try dsimp only)))
  k_with "getAttr ref" => (k_here; (with_reducible show wpAny _ _ (getAttr (Value.ref _) (PySem.Str.ofString "size") _) _ _ _); k_dflt (refine' get_size ?zqk1 ?zqk2 ?zqk3 ?zqk4 ?_; walk_at "K4"; k_whole; intro tk' tj'; (try dsimp only)))
  k_with "getAttr ref" => (k_here; (with_reducible show wpAny _ _ (getAttr (Value.ref _) (PySem.Str.ofString "array") _) _ _ _); k_dflt (refine' get_array ?zqk1 ?zqk2 ?zqk3 ?zqk4 ?_; walk_at "K4"; k_whole; intro tj'; (try dsimp only)))
  k_with "getAttr ref" => (k_here; (with_reducible show wpAny _ _ (getAttr (Value.ref _) (PySem.Str.ofString "nodes") _) _ _ _); k_dflt (refine' get_nodes ?zqk1 ?zqk2 ?zqk3 ?zqk4 ?_; walk_at "K4"; k_whole; intro tj'; (try dsimp only)))
  k_with "getAttr ref" => (k_here; (with_reducible show wpAny _ _ (getAttr (Value.ref _) (PySem.Str.ofString "key") _) _ _ _); k_dflt (first | (refine' get_key_none ?zqk1 ?zqk2 ?zqk3 ?zqk4 ?zqk5 ?zqk6 ?zqk7 ?_; walk_at "K4"; walk_at "K56"; (case zqk7 => assumption); k_whole; intro tj'; (try dsimp only)) | (refine' get_key_some ?zqk1 ?zqk2 ?zqk3 ?zqk4 ?zqk5 ?zqk6 ?zqk7 ?_; walk_at "K4"; walk_at "K56"; (case zqk7 => assumption); k_whole; intro kv' tj' hkv'; (try dsimp only)) | (refine' get_key_any ?zqk1 ?zqk2 ?zqk3 ?zqk4 ?zqk5 ?zqk6 ?_; walk_at "K4"; walk_at "K56"; k_whole; intro kv' tj' hkv'; (try dsimp only))))
  k_with "getAttr ref" => (k_here; (with_reducible show wpAny _ _ (getAttr (Value.ref _) (PySem.Str.ofString "value") _) _ _ _); k_dflt (refine' get_value ?zqk1 ?zqk2 ?zqk3 ?zqk4 ?zqk5 ?zqk6 ?_; walk_at "K4"; walk_at "K56"; k_whole; intro tj'; (try dsimp only)))
  k_with "getAttr ref" => (k_here; (with_reducible show wpAny _ _ (getAttr (Value.ref _) (PySem.Str.ofString "next") _) _ _ _); k_dflt (refine' get_next ?zqk1 ?zqk2 ?zqk3 ?zqk4 ?zqk5 ?zqk6 ?_; walk_at "K4"; walk_at "K56"; k_whole; intro tk' tj'; (try dsimp only)))
  k_with "setAttr ref" => (k_here; (with_reducible show wpAny _ _ (setAttr (Value.ref _) (PySem.Str.ofString "free") _) _ _ _); k_dflt (refine' set_free ?zqk1 ?zqk2 ?zqk3 ?zqk4 ?_; walk_at "K4"; walk_at "KN"))
  k_with "setAttr ref" => (k_here; (with_reducible show wpAny _ _ (setAttr (Value.ref _) (PySem.Str.ofString "size") _) _ _ _); k_dflt (refine' set_size ?zqk1 ?zqk2 ?zqk3 ?zqk4 ?_; walk_at "K4"; walk_at "KN"))
  k_with "setAttr ref" => (k_here; (with_reducible show wpAny _ _ (setAttr (Value.ref _) (PySem.Str.ofString "flags") _) _ _ _); k_dflt (refine' set_flags ?zqk1 ?zqk2 ?zqk3 ?zqk4 ?_; walk_at "K4"; walk_at "KN"))
  k_with "setAttr ref" => (k_here; (with_reducible show wpAny _ _ (setAttr (Value.ref _) (PySem.Str.ofString "log_nodes") _) _ _ _); k_dflt (refine' set_log_nodes ?zqk1 ?zqk2 ?zqk3 ?zqk4 ?_; walk_at "K4"; walk_at "KN"))
  k_with "setAttr ref" => (k_here; (with_reducible show wpAny _ _ (setAttr (Value.ref _) (PySem.Str.ofString "key") _) _ _ _); k_dflt (refine' set_key ?zqk1 ?zqk2 ?zqk3 ?zqk4 ?zqk5 ?zqk6 ?zqk7 ?_; walk_at "K4"; walk_at "K56"; (case zqk7 => first | assumption | exact KV.none); walk_at "KN"))
  k_with "setAttr ref" => (k_here; (with_reducible show wpAny _ _ (setAttr (Value.ref _) (PySem.Str.ofString "value") _) _ _ _); k_dflt (refine' set_value ?zqk1 ?zqk2 ?zqk3 ?zqk4 ?zqk5 ?zqk6 ?zqk7 ?_; walk_at "K4"; walk_at "K56"; (case zqk7 => first | assumption | rfl); walk_at "KN"))
  k_with "setAttr ref" => (k_here; (with_reducible show wpAny _ _ (setAttr (Value.ref _) (PySem.Str.ofString "next") _) _ _ _); k_dflt (refine' set_next ?zqk1 ?zqk2 ?zqk3 ?zqk4 ?zqk5 ?zqk6 ?_; walk_at "K4"; walk_at "K56"; walk_at "KN"))
  k_with "getMethod ref" => (k_here; (with_reducible show wpAny _ _ (getMethod (Value.ref _) _ _) _ _ _); k_dflt (refine' tab_meth ?zqk1 ?zqk2 ?zqk3 ?zqk4 ?zqk5 ?zqk6 ?zqk7 ?zqk8 ?_; walk_at "K4"; (case zqk5 => k_is); (case zqk6 => k_is); (case zqk7 => k_is); (case zqk8 => decide +kernel); k_whole))
  k_with "call builtin:len" => (k_here; (with_reducible show wpAny _ _ (call (Value.builtin "len") [Value.ref _]) _ _ _); k_dflt (first | (refine' len_nodes ?zqk3 ?zqk4 ?_; (case zqk3 => k_asm); (case zqk4 => k_asm); k_whole; intro tk' tj'; (try dsimp only)) | (refine' len_arr ?zqk3 ?zqk4 ?_; (case zqk3 => k_asm); (case zqk4 => k_asm); k_whole; intro tk' tj'; (try dsimp only))))
  k_with "subscriptTail" => (k_here; (with_reducible show wpAny _ _ (subscriptTail _ _ (Value.ref _) (Value.int _ _)) _ _ _); k_dflt (first | (refine' item_node ?zqk3 ?zqk4 ?zqk5 ?zqk6 ?_ ?zqk7; (case zqk3 => k_asm); (case zqk4 => k_asm); (case zqk5 => assumption); (case zqk6 => first | assumption | omega); (case zqk7 => with_unfolding_all rfl); k_whole) | (refine' item_arr ?zqk3 ?zqk4 ?zqk5 ?zqk6 ?_ ?zqk7; (case zqk3 => k_asm); (case zqk4 => k_asm); (case zqk5 => assumption); (case zqk6 => first | assumption | omega); (case zqk7 => with_unfolding_all rfl); k_whole)))
  k_with "setItem ref int" => (k_here; (with_reducible show wpAny _ _ (setItem (Value.ref _) (Value.int _ _) _) _ _ _); k_dflt (refine' set_arr ?zqk1 ?zqk3 ?zqk4 ?zqk5 ?zqk6 ?_; (case zqk1 => k_asm); (case zqk3 => k_asm); (case zqk4 => k_asm); (case zqk5 => omega); (case zqk6 => (try dsimp only); omega); k_whole; intro h' n' F' N' hT' hK'; (try dsimp only); (try k_sweep)))
  k_with "call builtin:list.append" => (k_here; (with_reducible show wpAny _ _ (call (Value.builtin _) [Value.ref _, _]) _ _ _); k_dflt (refine' app_arr ?zqk1 ?zqk3 ?zqk4 ?zqk5 ?_; (case zqk1 => k_asm); (case zqk3 => k_asm); (case zqk4 => k_asm); (case zqk5 => (try dsimp only); omega); k_whole; intro h' n' F' N' hT' hK'; (try dsimp only); (try k_sweep)))
  k_with "compareOp Is" => (k_here; (with_reducible show wpAny _ _ (compareOp CmpOp.Is _ Value.none) _ _ _); k_dflt (refine' kv_isnone ?zqk1 ?_; (case zqk1 => assumption); k_whole))
  k_with "exec For Name Name cons nil" => (k_here; (rename Fr _ _ _ _ => lF'); (with_unfolding_all refine' For_invVF lF' ?zqk1 ?zqk2 ?_; (case zqk1 => exact rfl); (case zqk2 => exact rfl); k_whole))
  k_with "exec For Name Call cons nil" => (k_here; (rename Fr _ _ _ _ => lF'); (with_unfolding_all refine' For_invVF lF' ?zqk1 ?zqk2 ?_; (case zqk1 => exact rfl); (case zqk2 => exact rfl); k_whole))
  k_with "exec For Name Attribute cons nil" => (k_here; (rename Fr _ _ _ _ => lF'); (with_unfolding_all refine' For_invVF lF' ?zqk1 ?zqk2 ?_; (case zqk1 => exact rfl); (case zqk2 => exact rfl); k_whole))
  k_with "TP" => ((first | (with_reducible show Mine.TP _ _ _ _ _ _ (Flow.ret _) _) | (with_reducible show Mine.TP _ _ _ _ _ _ Flow.brk _) | (with_reducible show Mine.TP _ _ _ _ _ _ Flow.next _) | (with_reducible show Mine.TP _ _ _ _ _ _ Flow.cont _)); (dsimp only [Mine.TP]))
  k_with "compareOp Is" => (k_here; (with_reducible show wpAny _ _ (compareOp CmpOp.Is _ Value.none) _ _ _); k_dflt (first | (refine' is_eq ?zqk1 ?_; (case zqk1 => assumption); k_whole) | (refine' is_ne ?zqk1 ?_; (case zqk1 => assumption); k_whole)))
  k_with "compareOp IsNot" => (k_here; (with_reducible show wpAny _ _ (compareOp CmpOp.IsNot _ Value.none) _ _ _); k_dflt (first | (refine' isnot_eq ?zqk1 ?_; (case zqk1 => assumption); k_whole) | (refine' isnot_ne ?zqk1 ?_; (case zqk1 => assumption); k_whole)))
  exact trivial

theorem updN_some {T T1 : Tab} {i : Int} {f : PNode → PNode} (h : updN T i f = some T1) : ∃ n x, i = ((n : Nat) : Int) ∧ T.nodes[n]? = some x ∧ T1 = { T with nodes := T.nodes.set n (f x) } := by
  unfold updN at h
  split at h
  · cases h
  · obtain ⟨x, hx, rfl⟩ := Option.map_eq_some_iff.mp h
    exact ⟨i.toNat, x, by omega, hx, rfl⟩
theorem TabIn.at {nw : Led} {t : Addr} {Y : Lay} {T : Tab} (hT : TabIn nw t Y T) {n : Nat} (h : n < T.nodes.length) : ∃ p, Y.ns[n]? = some p :=
  ⟨_, List.getElem?_eq_getElem (by rw [hT.len]; exact h)⟩
theorem lt_of_get {α : Type} {l : List α} {n : Nat} {x : α} (h : l[n]? = some x) : n < l.length := (List.getElem?_eq_some_iff.mp h).1
theorem gss {α : Type} {l : List α} {n : Nat} {x y : α} (h : l[n]? = some x) : (l.set n y)[n]? = some y := List.getElem?_set_self (lt_of_get h)
theorem gsn {α : Type} {l : List α} {n j : Nat} {x y : α} (hn : j ≠ n) (h : l[n]? = some x) : (l.set j y)[n]? = some x := by rw [List.getElem?_set_ne hn]; exact h
theorem freePos_lt {N : List PNode} {n sn : Nat} (h : (freePos N n).1 = (sn : Int)) : sn < N.length := by
  induction n with
  | zero => rw [freePos] at h; omega
  | succ f ih =>
    rw [freePos] at h
    split at h
    · split at h
      · have : f < N.length := lt_of_get (by assumption)
        have h2 : (f : Int) = sn := h
        omega
      · exact ih h
    · have h2 : (-1 : Int) = sn := h
      omega
section
variable {w : World} {A : Around} {E : Value → Shared → Prop} {s : Shared} {h₀ : Heap} {L t : Addr} {m : Str → Option Value} {news : Led} {Y : Lay} {T : Tab} {Q : Value → Shared → Prop}
theorem node_meth {pl : Sem Bool} {Q : Value × List Value → Shared → Prop} {name : Str} {f : Addr} {p : Addr × Addr} {x : PNode} {i : Nat} (F : Fr h₀ L s.heap m) (X : (Mine.hd.heap_1 w.params).In h₀) (N : News h₀ L s.heap news) (hT : TabIn news t Y T) (hp : Y.ns[i]? = some p) (hx : T.nodes[i]? = some x) (hg : plainGet (Mine.hd.heap_1 w.params) 177 name = true)
    (hf : findIn (Mine.hd.heap_1 w.params) (.ref 177) name = some (some (.ref f))) (ht : isFn (Mine.hd.heap_1 w.params) (.ref f) = true) (hn : (["key", "value", "next"].all fun a => !(Str.ofString a == name)) = true) (h : Q (.ref f, [.ref p.1]) s) :
    wpAny (model PySem.Challenge.rw_pq0681_01.row.prog w) A (getMethod (.ref p.1) name pl) Q E s := by
  obtain ⟨hNi, hv0, kv0, oN, hkv0, hd, hNd⟩ := hT.node i p x hp hx
  cases hd
  refine method_inst F X (.of_news N hNi hNd) hg hf ht ?_ h
  simp only [List.all_cons, List.all_nil, Bool.and_true, Bool.and_eq_true, Bool.not_eq_true'] at hn
  obtain ⟨h1, h2, h3⟩ := hn
  simp [getL, List.find?, Value.isStr, h1, h2, h3, DictEntry.refKey]
end
theorem wd_P21_38 : True := by
  k_with "subscriptTail" => (k_here; (with_reducible show wpAny _ _ (subscriptTail _ _ (Value.ref _) (Value.int _ _)) _ _ _); k_dflt ((refine' item_node ?zqk3 ?zqk4 ?zqk5 ?zqk6 ?_ ?zqk7; (case zqk3 => k_asm); (case zqk4 => k_asm); (case zqk6 => first | assumption | exact rfl); (case zqk5 => assumption); (case zqk7 => with_unfolding_all rfl); k_whole)))
  k_with "setAttr ref" => (k_here; (with_reducible show wpAny _ _ (setAttr (Value.ref _) (PySem.Str.ofString "key") _) _ _ _); k_dflt (refine' set_key ?zqk1 ?zqk2 ?zqk3 ?zqk4 ?zqk5 ?zqk6 ?zqk7 ?_; (case zqk1 => k_asm); (case zqk2 => k_asm); (case zqk3 => k_asm); (case zqk4 => k_asm); (case zqk5 => assumption); (case zqk6 => first | assumption | exact gss (by assumption) | exact gss (gss (by assumption)) | exact gss (gss (gss (by assumption)))); (case zqk7 => first | assumption | exact KV.none); k_whole; intro h' tj' n' F' N' hT' hK'; (try dsimp only); (try k_sweep)))
  k_with "setAttr ref" => (k_here; (with_reducible show wpAny _ _ (setAttr (Value.ref _) (PySem.Str.ofString "value") _) _ _ _); k_dflt (refine' set_value ?zqk1 ?zqk2 ?zqk3 ?zqk4 ?zqk5 ?zqk6 ?zqk7 ?_; (case zqk1 => k_asm); (case zqk2 => k_asm); (case zqk3 => k_asm); (case zqk4 => k_asm); (case zqk5 => assumption); (case zqk6 => first | assumption | exact gss (by assumption) | exact gss (gss (by assumption)) | exact gss (gss (gss (by assumption)))); (case zqk7 => first | assumption | exact rfl); k_whole; intro h' tj' n' F' N' hT' hK'; (try dsimp only); (try k_sweep)))
  k_with "setAttr ref" => (k_here; (with_reducible show wpAny _ _ (setAttr (Value.ref _) (PySem.Str.ofString "next") _) _ _ _); k_dflt (refine' set_next ?zqk1 ?zqk2 ?zqk3 ?zqk4 ?zqk5 ?zqk6 ?_; (case zqk1 => k_asm); (case zqk2 => k_asm); (case zqk3 => k_asm); (case zqk4 => k_asm); (case zqk5 => assumption); (case zqk6 => first | assumption | exact gss (by assumption) | exact gss (gss (by assumption))); k_whole; intro h' tj' n' F' N' hT' hK'; (try dsimp only); (try k_sweep)))
  exact trivial
set_option maxRecDepth 100000 in
set_option maxHeartbeats 8000000 in
theorem moved_spec (w : World) (t : Addr) (Y : Lay) (T : Tab) (p q : Addr × Addr) (mn sn : Nat) (x y : PNode) (hp : Y.ns[mn]? = some p) (hq : Y.ns[sn]? = some q) (hne : sn ≠ mn) (hx : T.nodes[mn]? = some x) (hy : T.nodes[sn]? = some y) (hv : handedIn x.val = true) : Spec w 174 [.ref p.1, .ref q.1] 3 (fun nw => TabIn nw t Y T)
    (fun n0 r n1 => r = .none ∧ TabIn n1 t Y { T with nodes := T.nodes.set sn x } ∧ Keeps Y n0 n1) := by
  unfold Spec
  k_fill
  intro mean mg mb dp un gd cn cs a ccd cl outer A₀ base h₀ L m news s Q E B F X N TP hk hP hd hu hret
  w_top on
  w_on
  rename TabIn _ _ _ _ => hT
  have a1 : (T.nodes.set sn { y with key := x.key })[mn]? = some x := gsn hne hx
  have a2 : ((T.nodes.set sn { y with key := x.key }).set sn { key := x.key, val := x.val, next := y.next })[mn]? = some x := gsn hne a1
  k_steps
  refine hret _ _ _ _ (by k_asm) (by k_asm) ⟨rfl, ?_, ?_⟩
  · have h9 : TabIn _ t Y _ := (by assumption)
    simp only [List.set_set] at h9
    exact h9
  · exact Keeps.trans (by assumption) (Keeps.trans (by assumption) (by assumption))

end
section
theorem wd_P22_0 : True := by
  k_with_none
  exact trivial
theorem wd_P22_39 : True := by
  k_with "KD" => first | exact dlt (by assumption) (by first | decide | omega) | exact dlt1 (by assumption) (by first | decide | omega) | exact dlt0 (by assumption) | ktr_room
  k_with "KU" => first | exact ult (by assumption) (by first | decide | omega) | ktr_units
  k_with "ENTER" => (refine' enter_ ?zqk1 ?zqk2 ?zqk3 ?zqk4 ?zqk5 ?zqkA ?zqkF ?zqkK ?zqk6 ?zqk7 ?zqk8 ?zqk9 ?zqkB ?_ ?zqc2 ?zqc3 ?zqc4 ?zqc5; (case zqkA => exact rfl); (case zqkF => exact rfl); (case zqkK => first | exact rfl | assumption); (case zqk1 => k_asm); (case zqk2 => k_asm); (case zqk3 => k_asm); (case zqk4 => k_asm); (case zqk5 => k_asm); (case zqk6 => k_is); (case zqk7 => k_is); (case zqk8 => walk_at "KD"); (case zqk9 => first | exact BindsTo.of_eq rfl | exact binds_K (by k_in) rfl (by k_is) rfl rfl rfl | fail "ENTER: no rule for these arguments"); (case zqc5 => decide); (case zqkB => exact locs rfl); (case zqc2 => exact rfl); (case zqc3 => exact rfl); (case zqc4 => exact rfl); k_whole; intro g' L' h' tk' FG' mm F' N' B' X' T' qk ek)
  k_with "call ref" => (k_here; k_dflt (first | (refine' call_cls0 ?zqk1 ?zqk2 ?zqk3 ?zqk4 ?zqk5 ?_; (case zqk1 => k_asm); (case zqk2 => k_asm); (case zqk3 => k_asm); (case zqk4 => k_is); (case zqk5 => k_is); k_whole; intro x' d' h' F' N' l1 l2; (try k_lt l1); (try k_lt2 l2); (try k_sweep)) | (refine' call_cls ?zqk1 ?zqk2 ?zqk3 ?zqk4 ?zqk5 ?zqk6 ?_; (case zqk1 => k_asm); (case zqk2 => k_asm); (case zqk3 => k_asm); (case zqk4 => k_is); (case zqk5 => k_is); (case zqk6 => k_is); k_whole; intro x' d' h' F' N' l1 l2; (try k_lt l1); (try k_lt2 l2); (try k_sweep); walk_at "ENTER") | (refine' call_meth ?zqk1 ?zqk2 ?_; (case zqk1 => k_asm); (case zqk2 => k_mem); k_whole; walk_at "ENTER") | (refine wpAny_call ?_; walk_at "ENTER")))
  k_with "call builtin:len" => (k_here; (with_reducible show wpAny _ _ (call (Value.builtin "len") [Value.ref _]) _ _ _); k_dflt (refine' kst_len ?zqk1 ?zqk2 ?zqk3 ?zqk4 ?_; (case zqk1 => k_asm); (case zqk2 => k_mem); (case zqk3 => first | assumption | exact rfl); (case zqk4 => omega); k_whole))
  k_with "WhileStep2" => (first | (with_reducible show WhileStep2 _ _ _ _ _ _ (Flow.ret _) _) | (with_reducible show WhileStep2 _ _ _ _ _ _ Flow.brk _)); (dsimp only [WhileStep2])
  k_with "execs cons" => (k_here; refine wpAny_execs_cons (foldQ ?_); intro qs)
  k_with "storeName" => (k_here; (try dsimp only); k_dflt (refine' store_ ?zqF ?zqN ?_ ?zqa ?zqb; (case zqF => k_asm); (case zqN => k_asm); (case zqa => first | exact rfl | assumption); (case zqb => rfl); k_whole; intro h' tk' mm F' N'; (try k_sweep)))
  k_with "exec While Compare cons nil" => refine Halt.go ?_
  k_with "pyIter ref" => refine Halt.go ?_
  k_with "call type:enumerate" => refine Halt.go ?_
  k_with "KswEnd" => refine Halt.at (k := "KswEnd") (by assumption) ?_
  k_with "subscriptTail" => refine Halt.at (k := "subscriptTail") (by assumption) ?_
  k_with "eval ListComp" => refine Halt.at (k := "eval ListComp") (by assumption) ?_
  k_with "CompSrc" => refine Halt.at (k := "CompSrc") (by assumption) ?_
  k_with "CompEnd" => refine Halt.at (k := "CompEnd") (by assumption) ?_
  k_with "call ref" => refine Halt.at (k := "call ref") (by assumption) ?_
  k_with "call builtin:sorted" => refine Halt.at (k := "call builtin:sorted") (by assumption) ?_
  k_with "call builtin:repr" => refine Halt.at (k := "call builtin:repr") (by assumption) ?_
  k_with "unpackItems ref" => refine Halt.at (k := "unpackItems ref") (by assumption) ?_
  k_with "compareOp Eq ref ref" => refine Halt.at (k := "compareOp Eq ref ref") (by assumption) ?_
  k_with "call type:str" => refine Halt.at (k := "call type:str") (by assumption) ?_
  k_with "K4" => ((case zqk1 => k_asm); (case zqk2 => k_asm); (case zqk3 => k_asm); (case zqk4 => k_asm))
  k_with "K56" => ((case zqk5 => first | assumption | (with_unfolding_all assumption)); (case zqk6 => first | assumption | (with_unfolding_all assumption)))
  k_with "KN" => (k_whole; intro h' tj' n' F' N' hT' hK'; (try dsimp only); (try k_sweep))
  k_with "getAttr ref" => (k_here; (with_reducible show wpAny _ _ (getAttr (Value.ref _) (PySem.Str.ofString "free") _) _ _ _); k_dflt (refine' get_free ?zqk1 ?zqk2 ?zqk3 ?zqk4 ?_; walk_at "K4"; k_whole; intro tk' tj'; (try dsimp only)))
  k_with "getAttr ref" => (k_here; (with_reducible show wpAny _ _ (getAttr (Value.ref _) (PySem.Str.ofString "size") _) _ _ _); k_dflt (refine' get_size ?zqk1 ?zqk2 ?zqk3 ?zqk4 ?_; walk_at "K4"; k_whole; intro tk' tj'; (try dsimp only)))
  k_with "getAttr ref" => (k_here; (with_reducible show wpAny _ _ (getAttr (Value.ref _) (PySem.Str.ofString "array") _) _ _ _); k_dflt (refine' get_array ?zqk1 ?zqk2 ?zqk3 ?zqk4 ?_; walk_at "K4"; k_whole; intro tj'; (try dsimp only)))
  k_with "getAttr ref" => (k_here; (with_reducible show wpAny _ _ (getAttr (Value.ref _) (PySem.Str.ofString "nodes") _) _ _ _); k_dflt (refine' get_nodes ?zqk1 ?zqk2 ?zqk3 ?zqk4 ?_; walk_at "K4"; k_whole; intro tj'; (try dsimp only)))
  k_with "getAttr ref" => (k_here; (with_reducible show wpAny _ _ (getAttr (Value.ref _) (PySem.Str.ofString "key") _) _ _ _); k_dflt (first | (refine' get_key_none ?zqk1 ?zqk2 ?zqk3 ?zqk4 ?zqk5 ?zqk6 ?zqk7 ?_; walk_at "K4"; walk_at "K56"; (case zqk7 => assumption); k_whole; intro tj'; (try dsimp only)) | (refine' get_key_some ?zqk1 ?zqk2 ?zqk3 ?zqk4 ?zqk5 ?zqk6 ?zqk7 ?_; walk_at "K4"; walk_at "K56"; (case zqk7 => assumption); k_whole; intro kv' tj' hkv'; (try dsimp only)) | (refine' get_key_any ?zqk1 ?zqk2 ?zqk3 ?zqk4 ?zqk5 ?zqk6 ?_; walk_at "K4"; walk_at "K56"; k_whole; intro kv' tj' hkv'; (try dsimp only))))
  k_with "getAttr ref" => (k_here; (with_reducible show wpAny _ _ (getAttr (Value.ref _) (PySem.Str.ofString "value") _) _ _ _); k_dflt (refine' get_value ?zqk1 ?zqk2 ?zqk3 ?zqk4 ?zqk5 ?zqk6 ?_; walk_at "K4"; walk_at "K56"; k_whole; intro tj'; (try dsimp only)))
  k_with "getAttr ref" => (k_here; (with_reducible show wpAny _ _ (getAttr (Value.ref _) (PySem.Str.ofString "next") _) _ _ _); k_dflt (refine' get_next ?zqk1 ?zqk2 ?zqk3 ?zqk4 ?zqk5 ?zqk6 ?_; walk_at "K4"; walk_at "K56"; k_whole; intro tk' tj'; (try dsimp only)))
  k_with "setAttr ref" => (k_here; (with_reducible show wpAny _ _ (setAttr (Value.ref _) (PySem.Str.ofString "free") _) _ _ _); k_dflt (refine' set_free ?zqk1 ?zqk2 ?zqk3 ?zqk4 ?_; walk_at "K4"; walk_at "KN"))
  k_with "setAttr ref" => (k_here; (with_reducible show wpAny _ _ (setAttr (Value.ref _) (PySem.Str.ofString "size") _) _ _ _); k_dflt (refine' set_size ?zqk1 ?zqk2 ?zqk3 ?zqk4 ?_; walk_at "K4"; walk_at "KN"))
  k_with "setAttr ref" => (k_here; (with_reducible show wpAny _ _ (setAttr (Value.ref _) (PySem.Str.ofString "flags") _) _ _ _); k_dflt (refine' set_flags ?zqk1 ?zqk2 ?zqk3 ?zqk4 ?_; walk_at "K4"; walk_at "KN"))
  k_with "setAttr ref" => (k_here; (with_reducible show wpAny _ _ (setAttr (Value.ref _) (PySem.Str.ofString "log_nodes") _) _ _ _); k_dflt (refine' set_log_nodes ?zqk1 ?zqk2 ?zqk3 ?zqk4 ?_; walk_at "K4"; walk_at "KN"))
  k_with "setAttr ref" => (k_here; (with_reducible show wpAny _ _ (setAttr (Value.ref _) (PySem.Str.ofString "key") _) _ _ _); k_dflt (refine' set_key ?zqk1 ?zqk2 ?zqk3 ?zqk4 ?zqk5 ?zqk6 ?zqk7 ?_; walk_at "K4"; walk_at "K56"; (case zqk7 => first | assumption | exact KV.none); walk_at "KN"))
  k_with "setAttr ref" => (k_here; (with_reducible show wpAny _ _ (setAttr (Value.ref _) (PySem.Str.ofString "value") _) _ _ _); k_dflt (refine' set_value ?zqk1 ?zqk2 ?zqk3 ?zqk4 ?zqk5 ?zqk6 ?zqk7 ?_; walk_at "K4"; walk_at "K56"; (case zqk7 => first | assumption | rfl); walk_at "KN"))
  k_with "setAttr ref" => (k_here; (with_reducible show wpAny _ _ (setAttr (Value.ref _) (PySem.Str.ofString "next") _) _ _ _); k_dflt (refine' set_next ?zqk1 ?zqk2 ?zqk3 ?zqk4 ?zqk5 ?zqk6 ?_; walk_at "K4"; walk_at "K56"; walk_at "KN"))
  k_with "getMethod ref" => (k_here; (with_reducible show wpAny _ _ (getMethod (Value.ref _) _ _) _ _ _); k_dflt (refine' tab_meth ?zqk1 ?zqk2 ?zqk3 ?zqk4 ?zqk5 ?zqk6 ?zqk7 ?zqk8 ?_; walk_at "K4"; (case zqk5 => k_is); (case zqk6 => k_is); (case zqk7 => k_is); (case zqk8 => decide +kernel); k_whole))
  k_with "call builtin:len" => (k_here; (with_reducible show wpAny _ _ (call (Value.builtin "len") [Value.ref _]) _ _ _); k_dflt (first | (refine' len_nodes ?zqk3 ?zqk4 ?_; (case zqk3 => k_asm); (case zqk4 => k_asm); k_whole; intro tk' tj'; (try dsimp only)) | (refine' len_arr ?zqk3 ?zqk4 ?_; (case zqk3 => k_asm); (case zqk4 => k_asm); k_whole; intro tk' tj'; (try dsimp only))))
  k_with "subscriptTail" => (k_here; (with_reducible show wpAny _ _ (subscriptTail _ _ (Value.ref _) (Value.int _ _)) _ _ _); k_dflt (first | (refine' item_node ?zqk3 ?zqk4 ?zqk5 ?zqk6 ?_ ?zqk7; (case zqk3 => k_asm); (case zqk4 => k_asm); (case zqk5 => assumption); (case zqk6 => first | assumption | omega); (case zqk7 => with_unfolding_all rfl); k_whole) | (refine' item_arr ?zqk3 ?zqk4 ?zqk5 ?zqk6 ?_ ?zqk7; (case zqk3 => k_asm); (case zqk4 => k_asm); (case zqk5 => assumption); (case zqk6 => first | assumption | omega); (case zqk7 => with_unfolding_all rfl); k_whole)))
  k_with "setItem ref int" => (k_here; (with_reducible show wpAny _ _ (setItem (Value.ref _) (Value.int _ _) _) _ _ _); k_dflt (refine' set_arr ?zqk1 ?zqk3 ?zqk4 ?zqk5 ?zqk6 ?_; (case zqk1 => k_asm); (case zqk3 => k_asm); (case zqk4 => k_asm); (case zqk5 => omega); (case zqk6 => (try dsimp only); omega); k_whole; intro h' n' F' N' hT' hK'; (try dsimp only); (try k_sweep)))
  k_with "call builtin:list.append" => (k_here; (with_reducible show wpAny _ _ (call (Value.builtin _) [Value.ref _, _]) _ _ _); k_dflt (refine' app_arr ?zqk1 ?zqk3 ?zqk4 ?zqk5 ?_; (case zqk1 => k_asm); (case zqk3 => k_asm); (case zqk4 => k_asm); (case zqk5 => (try dsimp only); omega); k_whole; intro h' n' F' N' hT' hK'; (try dsimp only); (try k_sweep)))
  k_with "compareOp Is" => (k_here; (with_reducible show wpAny _ _ (compareOp CmpOp.Is _ Value.none) _ _ _); k_dflt (refine' kv_isnone ?zqk1 ?_; (case zqk1 => assumption); k_whole))
  k_with "exec For Name Name cons nil" => (k_here; (rename Fr _ _ _ _ => lF'); (with_unfolding_all refine' For_invVF lF' ?zqk1 ?zqk2 ?_; (case zqk1 => exact rfl); (case zqk2 => exact rfl); k_whole))
  k_with "exec For Name Call cons nil" => (k_here; (rename Fr _ _ _ _ => lF'); (with_unfolding_all refine' For_invVF lF' ?zqk1 ?zqk2 ?_; (case zqk1 => exact rfl); (case zqk2 => exact rfl); k_whole))
  k_with "exec For Name Attribute cons nil" => (k_here; (rename Fr _ _ _ _ => lF'); (with_unfolding_all refine' For_invVF lF' ?zqk1 ?zqk2 ?_; (case zqk1 => exact rfl); (case zqk2 => exact rfl); k_whole))
  k_with "TP" => ((first | (with_reducible show Mine.TP _ _ _ _ _ _ (Flow.ret _) _) | (with_reducible show Mine.TP _ _ _ _ _ _ Flow.brk _) | (with_reducible show Mine.TP _ _ _ _ _ _ Flow.next _) | (with_reducible show Mine.TP _ _ _ _ _ _ Flow.cont _)); (dsimp only [Mine.TP]))
  k_with "compareOp Is" => (k_here; (with_reducible show wpAny _ _ (compareOp CmpOp.Is _ Value.none) _ _ _); k_dflt (first | (refine' is_eq ?zqk1 ?_; (case zqk1 => assumption); k_whole) | (refine' is_ne ?zqk1 ?_; (case zqk1 => assumption); k_whole)))
  k_with "compareOp IsNot" => (k_here; (with_reducible show wpAny _ _ (compareOp CmpOp.IsNot _ Value.none) _ _ _); k_dflt (first | (refine' isnot_eq ?zqk1 ?_; (case zqk1 => assumption); k_whole) | (refine' isnot_ne ?zqk1 ?_; (case zqk1 => assumption); k_whole)))
  k_with "call ref" => (k_here; k_dflt ((refine' Spec.useI (main_spec _ _ _ _ (by assumption) (by assumption)) ?zqk1 ?zqk2 ?zqk3 ?zqk4 ?zqk5 ?zqkK ?zqkP ?zqkd ?zqku ?_; (case zqk1 => k_asm); (case zqk2 => k_asm); (case zqk3 => k_asm); (case zqk4 => k_asm); (case zqk5 => k_asm); (case zqkK => first | exact rfl | assumption); (case zqkP => (refine ⟨by assumption, ?_⟩; (try dsimp only); omega)); (case zqkd => walk_at "KD"); (case zqku => walk_at "KU"); k_whole; intro t1 h' tk' F' N'); (try dsimp only); (try k_sweep)))
  k_with "call ref" => (k_here; k_dflt ((refine' Spec.useT (rehash_spec _ _ _ (by assumption) _ _ _ _ _ _ (by assumption) (by assumption)) ?zqk1 ?zqk2 ?zqk3 ?zqk4 ?zqk5 ?zqkK ?zqkP ?zqkd ?zqku ?_; (case zqk1 => k_asm); (case zqk2 => k_asm); (case zqk3 => k_asm); (case zqk4 => k_asm); (case zqk5 => k_asm); (case zqkK => first | exact rfl | assumption); (case zqkP => assumption); (case zqkd => walk_at "KD"); (case zqku => walk_at "KU"); k_whole; intro h' tk' n' Y9 F' N' hT9 hS9); (try dsimp only); (try k_sweep)))
  k_with "call ref" => (k_here; k_dflt ((refine' Spec.useT (putagain_spec _ _ _ (by assumption) _ _ _ _ _ _ _ (by assumption) (by assumption) (by assumption) (by assumption)) ?zqk1 ?zqk2 ?zqk3 ?zqk4 ?zqk5 ?zqkK ?zqkP ?zqkd ?zqku ?_; (case zqk1 => k_asm); (case zqk2 => k_asm); (case zqk3 => k_asm); (case zqk4 => k_asm); (case zqk5 => k_asm); (case zqkK => first | exact rfl | assumption); (case zqkP => assumption); (case zqkd => walk_at "KD"); (case zqku => walk_at "KU"); k_whole; intro h' tk' n' Y9 F' N' hT9 hS9); (try dsimp only); (try k_sweep)))
  k_with "call ref" => (k_here; k_dflt ((refine' Spec.useK (freepos_spec _ _ _ _ _ (by assumption) (by assumption)) ?zqk1 ?zqk2 ?zqk3 ?zqk4 ?zqk5 ?zqkK ?zqkP ?zqkd ?zqku ?zqC ?_; (case zqk1 => k_asm); (case zqk2 => k_asm); (case zqk3 => k_asm); (case zqk4 => k_asm); (case zqk5 => k_asm); (case zqkK => first | exact rfl | assumption); (case zqkP => assumption); (case zqkd => walk_at "KD"); (case zqku => walk_at "KU"); (case zqC => (intro G c r' n' R'; obtain ⟨⟨t9, e1⟩, hT9, hK9⟩ := R'; subst e1; revert n' t9 hT9 hK9; exact c)); k_whole; intro n' t9 hT9 hK9 h' tk' F' N'); (try dsimp only); (try k_sweep)))
  k_with "call ref" => (k_here; k_dflt ((refine' Spec.use (moved_spec _ _ _ _ _ _ _ _ _ _ ?zqm1 ?zqm2 ?zqm3 ?zqm4 ?zqm5 ?zqm6) ?zqk1 ?zqk2 ?zqk3 ?zqk4 ?zqk5 ?zqkK ?zqkP ?zqkd ?zqku ?_; (case zqm1 => assumption); (case zqm2 => assumption); (case zqk1 => k_asm); (case zqk2 => k_asm); (case zqk3 => k_asm); (case zqk4 => k_asm); (case zqk5 => k_asm); (case zqkK => first | exact rfl | assumption); (case zqkP => assumption); (case zqm4 => assumption); (case zqm5 => assumption); (case zqm3 => assumption); (case zqm6 => assumption); (case zqkd => walk_at "KD"); (case zqku => walk_at "KU"); k_whole; intro r' h' tk' n' F' N' R'); (obtain ⟨e1, hT9, hK9⟩ := R'; subst e1); (try dsimp only); (try k_sweep)))
  k_with "call builtin:len" => (k_here; (with_reducible show wpAny _ _ (call (Value.builtin "len") [Value.ref _]) _ _ _); k_dflt (first | (refine' len_nodes ?zqk1 ?zqk2 ?_; (case zqk1 => k_asm); (case zqk2 => k_asm); k_whole; intro tk' tj'; (try dsimp only)) | (refine' len_arr ?zqk1 ?zqk2 ?_; (case zqk1 => k_asm); (case zqk2 => k_asm); k_whole; intro tk' tj'; (try dsimp only))))
  k_with "subscriptTail" => (k_here; (with_reducible show wpAny _ _ (subscriptTail _ _ (Value.ref _) (Value.int _ _)) _ _ _); k_dflt ((refine' item_node ?zqk3 ?zqk4 ?zqk5 ?zqk6 ?_ ?zqk7; (case zqk3 => k_asm); (case zqk4 => k_asm); (case zqk6 => first | assumption | exact rfl); (case zqk5 => assumption); (case zqk7 => with_unfolding_all rfl); k_whole)))
  k_with "setAttr ref" => (k_here; (with_reducible show wpAny _ _ (setAttr (Value.ref _) (PySem.Str.ofString "key") _) _ _ _); k_dflt (refine' set_key ?zqk1 ?zqk2 ?zqk3 ?zqk4 ?zqk5 ?zqk6 ?zqk7 ?_; (case zqk1 => k_asm); (case zqk2 => k_asm); (case zqk3 => k_asm); (case zqk4 => k_asm); (case zqk5 => assumption); (case zqk6 => first | assumption | exact gss (by assumption) | exact gss (gss (by assumption)) | exact gss (gss (gss (by assumption)))); (case zqk7 => first | assumption | exact KV.none); k_whole; intro h' tj' n' F' N' hT' hK'; (try dsimp only); (try k_sweep)))
  k_with "setAttr ref" => (k_here; (with_reducible show wpAny _ _ (setAttr (Value.ref _) (PySem.Str.ofString "value") _) _ _ _); k_dflt (refine' set_value ?zqk1 ?zqk2 ?zqk3 ?zqk4 ?zqk5 ?zqk6 ?zqk7 ?_; (case zqk1 => k_asm); (case zqk2 => k_asm); (case zqk3 => k_asm); (case zqk4 => k_asm); (case zqk5 => assumption); (case zqk6 => first | assumption | exact gss (by assumption) | exact gss (gss (by assumption)) | exact gss (gss (gss (by assumption)))); (case zqk7 => first | assumption | exact rfl); k_whole; intro h' tj' n' F' N' hT' hK'; (try dsimp only); (try k_sweep)))
  k_with "setAttr ref" => (k_here; (with_reducible show wpAny _ _ (setAttr (Value.ref _) (PySem.Str.ofString "next") _) _ _ _); k_dflt (refine' set_next ?zqk1 ?zqk2 ?zqk3 ?zqk4 ?zqk5 ?zqk6 ?_; (case zqk1 => k_asm); (case zqk2 => k_asm); (case zqk3 => k_asm); (case zqk4 => k_asm); (case zqk5 => assumption); (case zqk6 => first | assumption | exact gss (by assumption) | exact gss (gss (by assumption))); k_whole; intro h' tj' n' F' N' hT' hK'; (try dsimp only); (try k_sweep)))
  k_with "getMethod ref" => (k_here; (with_reducible show wpAny _ _ (getMethod (Value.ref _) (PySem.Str.ofString "moved_to") _) _ _ _); k_dflt (refine' node_meth ?zqk1 ?zqk2 ?zqk3 ?zqk4 ?zqk9 ?zqk10 ?zqk5 ?zqk6 ?zqk7 ?zqk8 ?_; (case zqk1 => k_asm); (case zqk2 => k_asm); (case zqk3 => k_asm); (case zqk4 => k_asm); (case zqk9 => assumption); (case zqk10 => assumption); (case zqk5 => k_is); (case zqk6 => k_is); (case zqk7 => k_is); (case zqk8 => decide +kernel); k_whole))
  exact trivial
theorem fl_false {n : Nat} (h : 0 < n) : ((n : Int) == 0) = false := by rw [beq_eq_false_iff_ne]; omega
section
variable (w : World) (nk : NK) (c : Nat) (S : NKS w nk c) (t : Addr) (Y : Lay) (T : Tab) (kv : Value) (k : PKey) (v : Value) (T' : Tab) (hkv : KV kv (some k)) (ok : KeyOk k) (hv : handedIn v = true)
include S hkv ok hv
set_option maxRecDepth 100000 in
set_option maxHeartbeats 8000000 in
theorem nk1 (hl : T.nodes.length = 0) {T1 : Tab} (h1 : rehashW nk T k = some T1) (h2 : putBackW nk T1 k v = some T') : Spec w 294 [.ref t, kv, v, .none] (c + 60) (fun nw => TabIn nw t Y T) (TabNew t Y T') := by
  unfold Spec
  k_fill
  intro mean mg mb dp un gd cn cs a ccd cl outer A₀ base h₀ L m news s Q E B F X N TP hk hP hd hu hret
  w_top on
  w_on
  rename TabIn _ _ _ _ => hT
  have hl' : ((T.nodes.length : Int) == 0) = true := by rw [beq_iff_eq]; omega
  k_steps
  exact hret _ _ _ _ (by k_asm) (by k_asm) ⟨rfl, _, by assumption, .trans (by assumption) (by assumption)⟩
omit S in
set_option maxRecDepth 100000 in
set_option maxHeartbeats 8000000 in
theorem nk2 (hl : 0 < T.nodes.length) {mn : Nat} {x : PNode} (hm : mainP T.nodes.length k = (mn : Int)) (hx : T.nodes[mn]? = some x) (hxv : x.val = .none) : Spec w 294 [.ref t, kv, v, .none] (c + 60) (fun nw => TabIn nw t Y T)
    (TabNew t Y { T with nodes := T.nodes.set mn ⟨some k, v, x.next⟩ }) := by
  unfold Spec
  k_fill
  intro mean mg mb dp un gd cn cs a ccd cl outer A₀ base h₀ L m news s Q E B F X N TP hk hP hd hu hret
  w_top on
  w_on
  rename TabIn _ _ _ _ => hT
  have hl' := fl_false hl
  obtain ⟨p, hp⟩ := hT.at (lt_of_get hx)
  k_steps
  refine hret _ _ _ _ (by k_asm) (by k_asm) ⟨rfl, Y, ?_, .trans (.of (by assumption)) (.of (by assumption))⟩
  have h9 : TabIn _ t Y _ := (by assumption)
  simp only [List.set_set] at h9
  exact h9
set_option maxRecDepth 100000 in
set_option maxHeartbeats 8000000 in
theorem nk3 (hl : 0 < T.nodes.length) {mn : Nat} {x : PNode} (hm : mainP T.nodes.length k = (mn : Int)) (hx : T.nodes[mn]? = some x) (hxv : x.val ≠ .none) (hf0 : T.free = (T.free.toNat : Int)) (hf1 : T.free.toNat ≤ T.nodes.length) (hsp : (freePos T.nodes T.free.toNat).1 < 0)
    {T1 : Tab} (h1 : rehashW nk { T with free := ((freePos T.nodes T.free.toNat).2 : Int) } k = some T1) (h2 : putBackW nk T1 k v = some T') : Spec w 294 [.ref t, kv, v, .none] (c + 60) (fun nw => TabIn nw t Y T) (TabNew t Y T') := by
  unfold Spec
  k_fill
  intro mean mg mb dp un gd cn cs a ccd cl outer A₀ base h₀ L m news s Q E B F X N TP hk hP hd hu hret
  w_top on
  w_on
  rename TabIn _ _ _ _ => hT
  have hl' := fl_false hl
  obtain ⟨p, hp⟩ := hT.at (lt_of_get hx)
  k_steps
  exact hret _ _ _ _ (by k_asm) (by k_asm) ⟨rfl, _, by assumption, .trans (.of (by assumption)) (.trans (by assumption) (by assumption))⟩
omit S in
set_option maxRecDepth 100000 in
set_option maxHeartbeats 8000000 in
theorem nk4 (hl : 0 < T.nodes.length) {mn sn : Nat} {x : PNode} (hm : mainP T.nodes.length k = (mn : Int)) (hx : T.nodes[mn]? = some x) (hxv : x.val ≠ .none) (hf0 : T.free = (T.free.toNat : Int)) (hf1 : T.free.toNat ≤ T.nodes.length) (hsp : (freePos T.nodes T.free.toNat).1 = (sn : Int)) (hne : sn ≠ mn) {pk : PKey} (hxk : x.key = some pk) (okp : KeyOk pk)
    (ho : mainP T.nodes.length pk = mainP T.nodes.length k) :
    Spec w 294 [.ref t, kv, v, .none] (c + 60) (fun nw => TabIn nw t Y T)
    (TabNew t Y { T with nodes := (T.nodes.set mn { x with next := (freePos T.nodes T.free.toNat).1 }).set sn ⟨some k, v, x.next⟩, free := ((freePos T.nodes T.free.toNat).2 : Int) }) := by
  unfold Spec
  k_fill
  intro mean mg mb dp un gd cn cs a ccd cl outer A₀ base h₀ L m news s Q E B F X N TP hk hP hd hu hret
  w_top on
  w_on
  rename TabIn _ _ _ _ => hT
  have hl' := fl_false hl
  have ho' : (mainP T.nodes.length pk != mainP T.nodes.length k) = false := by rw [ho]; simp
  obtain ⟨y1, g1⟩ : ∃ y1, T.nodes[sn]? = some y1 := ⟨_, List.getElem?_eq_getElem (freePos_lt hsp)⟩
  obtain ⟨p, hp⟩ := hT.at (lt_of_get hx)
  obtain ⟨p1, hp1⟩ := hT.at (lt_of_get g1)
  have g2 : (T.nodes.set sn { y1 with next := x.next })[mn]? = some x := gsn hne hx
  have g3 : ((T.nodes.set sn { y1 with next := x.next }).set mn { x with next := (freePos T.nodes T.free.toNat).1 })[sn]? = some { y1 with next := x.next } := gsn (Ne.symm hne) (gss g1)
  k_steps
  refine hret _ _ _ _ (by k_asm) (by k_asm) ⟨rfl, Y, ?_, ?_⟩
  · have h9 : TabIn _ t Y _ := (by assumption)
    simp only [List.set_set] at h9
    rw [List.set_comm _ _ hne, List.set_set] at h9
    exact h9
  · repeat (first | exact Step.of (by assumption) | refine Step.trans (.of (by assumption)) ?_)
omit S in
set_option maxRecDepth 100000 in
set_option maxHeartbeats 8000000 in
theorem nk5 (hl : 0 < T.nodes.length) {mn sn jn : Nat} {x xj : PNode} (hm : mainP T.nodes.length k = (mn : Int)) (hx : T.nodes[mn]? = some x) (hxv : x.val ≠ .none) (hf0 : T.free = (T.free.toNat : Int)) (hf1 : T.free.toNat ≤ T.nodes.length) (hsp : (freePos T.nodes T.free.toNat).1 = (sn : Int)) (hne : sn ≠ mn) {pk : PKey} (hxk : x.key = some pk) (okp : KeyOk pk)
    (ho : mainP T.nodes.length pk ≠ mainP T.nodes.length k) (hj : prevF T.nodes (mainP T.nodes.length k) (T.nodes.length + 1) (mainP T.nodes.length pk) = some (jn : Int)) (hjm : jn ≠ mn) (gj : T.nodes[jn]? = some xj) :
    Spec w 294 [.ref t, kv, v, .none] (c + 60) (fun nw => TabIn nw t Y T)
    (TabNew t Y { T with nodes := ((T.nodes.set jn { xj with next := (freePos T.nodes T.free.toNat).1 }).set sn x).set mn ⟨some k, v, -1⟩, free := ((freePos T.nodes T.free.toNat).2 : Int) }) := by
  unfold Spec
  k_fill
  intro mean mg mb dp un gd cn cs a ccd cl outer A₀ base h₀ L m news s Q E B F X N TP hk hP hd hu hret
  w_top on
  w_on
  rename TabIn _ _ _ _ => hT
  have hl' := fl_false hl
  have ho' : (mainP T.nodes.length pk != mainP T.nodes.length k) = true := by rw [bne_iff_ne]; exact ho
  obtain ⟨p, hp⟩ := hT.at (lt_of_get hx)
  obtain ⟨p1, hp1⟩ := hT.at (freePos_lt hsp)
  have hxh : handedIn x.val = true := (hT.node mn p x hp hx).hand
  obtain ⟨y1, g1⟩ : ∃ y1, (T.nodes.set jn { xj with next := (freePos T.nodes T.free.toNat).1 })[sn]? = some y1 := ⟨_, List.getElem?_eq_getElem (by rw [List.length_set]; exact freePos_lt hsp)⟩
  have g2 : (T.nodes.set jn { xj with next := (freePos T.nodes T.free.toNat).1 })[mn]? = some x := gsn hjm hx
  have g3 : ((T.nodes.set jn { xj with next := (freePos T.nodes T.free.toNat).1 }).set sn x)[mn]? = some x := gsn hne g2
  have hlenY := hT.len
  have hM9 := haltAt "KswEnd"
  k_steps
  constructor
  (rename Fr _ _ _ _ => lF); (rename News _ _ _ _ => lN)
  (with_unfolding_all refine' ksw_while (σ := Nat × Int × Tok) (fun _ => _) (fun c => [(Str.ofString "other", .int c.2.1 c.2.2)]) (fun _ => True) [] (fun c => prevF T.nodes (mainP T.nodes.length k) c.1 c.2.1 = some (jn : Int)) (fun c => c.1) (_, _, _) lF lN trivial ?hk hj ?turn)
  case hk => (intro p hp; simp only [List.mem_cons, List.not_mem_nil, or_false] at hp; rcases hp with rfl; rfl)
  clear lF lN; refine all3 ?_; rintro f at1 tk1 u h tk hf hw F N; dsimp only at hw
  cases f with
  | zero => cases hw
  | succ f =>
    by_cases hneg : at1 < 0
    · rw [prevF, if_pos hneg] at hw; cases hw
    · rw [prevF, if_neg hneg] at hw
      obtain ⟨i, rfl⟩ := Int.eq_ofNat_of_zero_le (by omega : 0 ≤ at1)
      rw [Int.toNat_natCast] at hw
      cases hxo : T.nodes[i]? with
      | none => rw [hxo] at hw; cases hw
      | some xo =>
        obtain ⟨po, hpo⟩ : ∃ po, Y.ns[i]? = some po := ⟨_, List.getElem?_eq_getElem (by have := lt_of_get hxo; omega)⟩
        rw [hxo] at hw
        dsimp only at hw
        by_cases hnx : xo.next = mainP T.nodes.length k
        · rw [if_pos hnx] at hw
          have hc : (xo.next != mainP T.nodes.length k) = false := by rw [hnx]; simp
          obtain rfl : i = jn := by have := Option.some.inj hw; omega
          obtain rfl : xo = xj := Option.some.inj (hxo.symm.trans gj)
          clear hxo hw hj
          (try k_fold)
          k_steps
          refine hret _ _ _ _ (by k_asm) (by k_asm) ⟨rfl, Y, ?_, ?_⟩
          · have h9 : TabIn _ t Y _ := (by assumption)
            simp only [List.set_set] at h9
            exact h9
          · repeat (first | exact Step.of (by assumption) | refine Step.trans (.of (by assumption)) ?_)
        · rw [if_neg hnx] at hw
          have hc : (xo.next != mainP T.nodes.length k) = true := by rw [bne_iff_ne]; exact hnx
          clear gj g1 g2 g3
          (try k_fold)
          k_steps
          constructor
          refine ksw_end ⟨f, _, _⟩ (by assumption) (by assumption) (by kst_in) (by kst_facts) (by kst_all) ?hr hw (Nat.lt_succ_self f)
          (first | (intro z h2 h3; have h4 := ne_true_of_eq_false h3; simp only [List.forall_mem_cons, List.not_mem_nil, false_implies, implies_true, and_true, ne_eq] at h2; (try simp only [List.contains_cons, List.contains_nil, Bool.or_false, Bool.or_eq_false_iff, beq_eq_false_iff_ne, ne_eq] at h3); (repeat first | with_reducible rfl | (refine Eq.trans (kstB_ne ?zqs) ?_; (case zqs => first | exact h2 | exact h2.1 | exact h2.2 | exact h2.2.1 | exact h2.2.2 | exact h2.2.2.1 | exact h2.2.2.2 | exact h3 | exact h3.1 | exact h3.2 | exact h3.2.1 | exact h3.2.2 | exact h4)) | (refine Eq.trans (kstB_nil _ _) ?_) | (refine Eq.trans (if_neg ?zqs) ?_; (case zqs => first | exact h2 | exact h2.1 | exact h2.2 | exact h2.2.1 | exact h2.2.2 | exact h2.2.2.1 | exact h2.2.2.2 | exact h3 | exact h3.1 | exact h3.2 | exact h3.2.1 | exact h3.2.2 | exact h4))); done) | (intro z h2 h3; simp only [List.forall_mem_cons, List.not_mem_nil, false_implies, implies_true, and_true, ne_eq] at h2; (try simp only [List.contains_cons, List.contains_nil, Bool.or_false, Bool.or_eq_false_iff, beq_eq_false_iff_ne, ne_eq] at h3); simp +zetaDelta [kstB, h2, h3]))
end
theorem nk_step (w : World) (nk : NK) (c : Nat) (S : NKS w nk c) : NKS w (newKeyW nk) (c + 60) := by
  intro t Y T kv k v T' hkv ok hv h
  unfold newKeyW at h
  by_cases hl : T.nodes.length = 0
  · rw [if_pos hl] at h
    obtain ⟨T1, h1, h2⟩ := Option.bind_eq_some_iff.mp h
    exact nk1 w nk c S t Y T kv k v T' hkv ok hv hl h1 h2
  rw [if_neg hl] at h
  have hl0 : 0 < T.nodes.length := by omega
  have hmb := mainP_bound hl0 k
  have hm : mainP T.nodes.length k = ((mainP T.nodes.length k).toNat : Int) := by omega
  obtain ⟨x, hx, h⟩ := Option.bind_eq_some_iff.mp h
  by_cases hxv : x.val = .none
  · rw [if_pos hxv] at h
    obtain rfl := Option.some.inj h
    exact nk2 w c t Y T kv k v hkv ok hv hl0 hm hx hxv
  rw [if_neg hxv] at h
  by_cases hf : T.free < 0 ∨ (T.nodes.length : Int) < T.free
  · rw [if_pos hf] at h; cases h
  rw [if_neg hf] at h
  have hf0 : T.free = (T.free.toNat : Int) := by omega
  have hf1 : T.free.toNat ≤ T.nodes.length := by omega
  by_cases hsp : (freePos T.nodes T.free.toNat).1 < 0
  · rw [if_pos hsp] at h
    obtain ⟨T1, h1, h2⟩ := Option.bind_eq_some_iff.mp h
    exact nk3 w nk c S t Y T kv k v T' hkv ok hv hl0 hm hx hxv hf0 hf1 hsp h1 h2
  rw [if_neg hsp] at h
  have hs0 : (freePos T.nodes T.free.toNat).1 = ((freePos T.nodes T.free.toNat).1.toNat : Int) := by omega
  obtain ⟨pk, hxk, h⟩ := Option.bind_eq_some_iff.mp h
  by_cases hok : keyOkB pk = false
  · rw [if_pos hok] at h; cases h
  rw [if_neg hok] at h
  have okp : KeyOk pk := keyOk_of (by simpa using hok)
  by_cases hsm : (freePos T.nodes T.free.toNat).1 = mainP T.nodes.length k
  · rw [if_pos hsm] at h; cases h
  rw [if_neg hsm] at h
  have hne : (freePos T.nodes T.free.toNat).1.toNat ≠ (mainP T.nodes.length k).toNat := by omega
  by_cases ho : mainP T.nodes.length pk = mainP T.nodes.length k
  · rw [if_pos ho] at h
    obtain rfl := Option.some.inj h
    exact nk4 w c t Y T kv k v hkv ok hv hl0 hm hx hxv hf0 hf1 hs0 hne hxk okp ho
  rw [if_neg ho] at h
  obtain ⟨j, hj, h⟩ := Option.bind_eq_some_iff.mp h
  by_cases hj9 : j < 0 ∨ j = mainP T.nodes.length k
  · rw [if_pos hj9] at h; cases h
  rw [if_neg hj9] at h
  obtain ⟨xj, gj, h⟩ := Option.bind_eq_some_iff.mp h
  obtain rfl := Option.some.inj h
  exact nk5 w c t Y T kv k v hkv ok hv hl0 hm hx hxv hf0 hf1 hs0 hne hxk okp ho (hj.trans (congrArg some (by omega))) (by omega) gj
theorem nk_spec (w : World) : ∀ n, NKS w (newKey n) (60 * n)
  | 0 => fun t Y T kv k v T' _ _ _ h => nomatch h
  | n + 1 => nk_step w _ _ (nk_spec w n)

end
section
theorem wd_P23_0 : True := by
  k_with_none
  exact trivial
theorem wd_P23_40 : True := by
  k_with "KD" => first | exact dlt (by assumption) (by first | decide | omega) | exact dlt1 (by assumption) (by first | decide | omega) | exact dlt0 (by assumption) | ktr_room
  k_with "KU" => first | exact ult (by assumption) (by first | decide | omega) | ktr_units
  k_with "ENTER" => (refine' enter_ ?zqk1 ?zqk2 ?zqk3 ?zqk4 ?zqk5 ?zqkA ?zqkF ?zqkK ?zqk6 ?zqk7 ?zqk8 ?zqk9 ?zqkB ?_ ?zqc2 ?zqc3 ?zqc4 ?zqc5; (case zqkA => exact rfl); (case zqkF => exact rfl); (case zqkK => first | exact rfl | assumption); (case zqk1 => k_asm); (case zqk2 => k_asm); (case zqk3 => k_asm); (case zqk4 => k_asm); (case zqk5 => k_asm); (case zqk6 => k_is); (case zqk7 => k_is); (case zqk8 => walk_at "KD"); (case zqk9 => first | exact BindsTo.of_eq rfl | exact binds_K (by k_in) rfl (by k_is) rfl rfl rfl | fail "ENTER: no rule for these arguments"); (case zqc5 => decide); (case zqkB => exact locs rfl); (case zqc2 => exact rfl); (case zqc3 => exact rfl); (case zqc4 => exact rfl); k_whole; intro g' L' h' tk' FG' mm F' N' B' X' T' qk ek)
  k_with "call ref" => (k_here; k_dflt (first | (refine' call_cls0 ?zqk1 ?zqk2 ?zqk3 ?zqk4 ?zqk5 ?_; (case zqk1 => k_asm); (case zqk2 => k_asm); (case zqk3 => k_asm); (case zqk4 => k_is); (case zqk5 => k_is); k_whole; intro x' d' h' F' N' l1 l2; (try k_lt l1); (try k_lt2 l2); (try k_sweep)) | (refine' call_cls ?zqk1 ?zqk2 ?zqk3 ?zqk4 ?zqk5 ?zqk6 ?_; (case zqk1 => k_asm); (case zqk2 => k_asm); (case zqk3 => k_asm); (case zqk4 => k_is); (case zqk5 => k_is); (case zqk6 => k_is); k_whole; intro x' d' h' F' N' l1 l2; (try k_lt l1); (try k_lt2 l2); (try k_sweep); walk_at "ENTER") | (refine' call_meth ?zqk1 ?zqk2 ?_; (case zqk1 => k_asm); (case zqk2 => k_mem); k_whole; walk_at "ENTER") | (refine wpAny_call ?_; walk_at "ENTER")))
  k_with "call builtin:len" => (k_here; (with_reducible show wpAny _ _ (call (Value.builtin "len") [Value.ref _]) _ _ _); k_dflt (refine' kst_len ?zqk1 ?zqk2 ?zqk3 ?zqk4 ?_; (case zqk1 => k_asm); (case zqk2 => k_mem); (case zqk3 => first | assumption | exact rfl); (case zqk4 => omega); k_whole))
  k_with "WhileStep2" => (first | (with_reducible show WhileStep2 _ _ _ _ _ _ (Flow.ret _) _) | (with_reducible show WhileStep2 _ _ _ _ _ _ Flow.brk _)); (dsimp only [WhileStep2])
  k_with "execs cons" => (k_here; refine wpAny_execs_cons (foldQ ?_); intro qs)
  k_with "storeName" => (k_here; (try dsimp only); k_dflt (refine' store_ ?zqF ?zqN ?_ ?zqa ?zqb; (case zqF => k_asm); (case zqN => k_asm); (case zqa => first | exact rfl | assumption); (case zqb => rfl); k_whole; intro h' tk' mm F' N'; (try k_sweep)))
  k_with "exec While Compare cons nil" => refine Halt.go ?_
  k_with "pyIter ref" => refine Halt.go ?_
  k_with "call type:enumerate" => refine Halt.go ?_
  k_with "KswEnd" => refine Halt.at (k := "KswEnd") (by assumption) ?_
  k_with "subscriptTail" => refine Halt.at (k := "subscriptTail") (by assumption) ?_
  k_with "eval ListComp" => refine Halt.at (k := "eval ListComp") (by assumption) ?_
  k_with "CompSrc" => refine Halt.at (k := "CompSrc") (by assumption) ?_
  k_with "CompEnd" => refine Halt.at (k := "CompEnd") (by assumption) ?_
  k_with "call ref" => refine Halt.at (k := "call ref") (by assumption) ?_
  k_with "call builtin:sorted" => refine Halt.at (k := "call builtin:sorted") (by assumption) ?_
  k_with "call builtin:repr" => refine Halt.at (k := "call builtin:repr") (by assumption) ?_
  k_with "unpackItems ref" => refine Halt.at (k := "unpackItems ref") (by assumption) ?_
  k_with "compareOp Eq ref ref" => refine Halt.at (k := "compareOp Eq ref ref") (by assumption) ?_
  k_with "call type:str" => refine Halt.at (k := "call type:str") (by assumption) ?_
  k_with "K4" => ((case zqk1 => k_asm); (case zqk2 => k_asm); (case zqk3 => k_asm); (case zqk4 => k_asm))
  k_with "K56" => ((case zqk5 => first | assumption | (with_unfolding_all assumption)); (case zqk6 => first | assumption | (with_unfolding_all assumption)))
  k_with "KN" => (k_whole; intro h' tj' n' F' N' hT' hK'; (try dsimp only); (try k_sweep))
  k_with "getAttr ref" => (k_here; (with_reducible show wpAny _ _ (getAttr (Value.ref _) (PySem.Str.ofString "free") _) _ _ _); k_dflt (refine' get_free ?zqk1 ?zqk2 ?zqk3 ?zqk4 ?_; walk_at "K4"; k_whole; intro tk' tj'; (try dsimp only)))
  k_with "getAttr ref" => (k_here; (with_reducible show wpAny _ _ (getAttr (Value.ref _) (PySem.Str.ofString "size") _) _ _ _); k_dflt (refine' get_size ?zqk1 ?zqk2 ?zqk3 ?zqk4 ?_; walk_at "K4"; k_whole; intro tk' tj'; (try dsimp only)))
  k_with "getAttr ref" => (k_here; (with_reducible show wpAny _ _ (getAttr (Value.ref _) (PySem.Str.ofString "array") _) _ _ _); k_dflt (refine' get_array ?zqk1 ?zqk2 ?zqk3 ?zqk4 ?_; walk_at "K4"; k_whole; intro tj'; (try dsimp only)))
  k_with "getAttr ref" => (k_here; (with_reducible show wpAny _ _ (getAttr (Value.ref _) (PySem.Str.ofString "nodes") _) _ _ _); k_dflt (refine' get_nodes ?zqk1 ?zqk2 ?zqk3 ?zqk4 ?_; walk_at "K4"; k_whole; intro tj'; (try dsimp only)))
  k_with "getAttr ref" => (k_here; (with_reducible show wpAny _ _ (getAttr (Value.ref _) (PySem.Str.ofString "key") _) _ _ _); k_dflt (first | (refine' get_key_none ?zqk1 ?zqk2 ?zqk3 ?zqk4 ?zqk5 ?zqk6 ?zqk7 ?_; walk_at "K4"; walk_at "K56"; (case zqk7 => assumption); k_whole; intro tj'; (try dsimp only)) | (refine' get_key_some ?zqk1 ?zqk2 ?zqk3 ?zqk4 ?zqk5 ?zqk6 ?zqk7 ?_; walk_at "K4"; walk_at "K56"; (case zqk7 => assumption); k_whole; intro kv' tj' hkv'; (try dsimp only)) | (refine' get_key_any ?zqk1 ?zqk2 ?zqk3 ?zqk4 ?zqk5 ?zqk6 ?_; walk_at "K4"; walk_at "K56"; k_whole; intro kv' tj' hkv'; (try dsimp only))))
  k_with "getAttr ref" => (k_here; (with_reducible show wpAny _ _ (getAttr (Value.ref _) (PySem.Str.ofString "value") _) _ _ _); k_dflt (refine' get_value ?zqk1 ?zqk2 ?zqk3 ?zqk4 ?zqk5 ?zqk6 ?_; walk_at "K4"; walk_at "K56"; k_whole; intro tj'; (try dsimp only)))
  k_with "getAttr ref" => (k_here; (with_reducible show wpAny _ _ (getAttr (Value.ref _) (PySem.Str.ofString "next") _) _ _ _); k_dflt (refine' get_next ?zqk1 ?zqk2 ?zqk3 ?zqk4 ?zqk5 ?zqk6 ?_; walk_at "K4"; walk_at "K56"; k_whole; intro tk' tj'; (try dsimp only)))
  k_with "setAttr ref" => (k_here; (with_reducible show wpAny _ _ (setAttr (Value.ref _) (PySem.Str.ofString "free") _) _ _ _); k_dflt (refine' set_free ?zqk1 ?zqk2 ?zqk3 ?zqk4 ?_; walk_at "K4"; walk_at "KN"))
  k_with "setAttr ref" => (k_here; (with_reducible show wpAny _ _ (setAttr (Value.ref _) (PySem.Str.ofString "size") _) _ _ _); k_dflt (refine' set_size ?zqk1 ?zqk2 ?zqk3 ?zqk4 ?_; walk_at "K4"; walk_at "KN"))
  k_with "setAttr ref" => (k_here; (with_reducible show wpAny _ _ (setAttr (Value.ref _) (PySem.Str.ofString "flags") _) _ _ _); k_dflt (refine' set_flags ?zqk1 ?zqk2 ?zqk3 ?zqk4 ?_; walk_at "K4"; walk_at "KN"))
  k_with "setAttr ref" => (k_here; (with_reducible show wpAny _ _ (setAttr (Value.ref _) (PySem.Str.ofString "log_nodes") _) _ _ _); k_dflt (refine' set_log_nodes ?zqk1 ?zqk2 ?zqk3 ?zqk4 ?_; walk_at "K4"; walk_at "KN"))
  k_with "setAttr ref" => (k_here; (with_reducible show wpAny _ _ (setAttr (Value.ref _) (PySem.Str.ofString "key") _) _ _ _); k_dflt (refine' set_key ?zqk1 ?zqk2 ?zqk3 ?zqk4 ?zqk5 ?zqk6 ?zqk7 ?_; walk_at "K4"; walk_at "K56"; (case zqk7 => first | assumption | exact KV.none); walk_at "KN"))
  k_with "setAttr ref" => (k_here; (with_reducible show wpAny _ _ (setAttr (Value.ref _) (PySem.Str.ofString "value") _) _ _ _); k_dflt (refine' set_value ?zqk1 ?zqk2 ?zqk3 ?zqk4 ?zqk5 ?zqk6 ?zqk7 ?_; walk_at "K4"; walk_at "K56"; (case zqk7 => first | assumption | rfl); walk_at "KN"))
  k_with "setAttr ref" => (k_here; (with_reducible show wpAny _ _ (setAttr (Value.ref _) (PySem.Str.ofString "next") _) _ _ _); k_dflt (refine' set_next ?zqk1 ?zqk2 ?zqk3 ?zqk4 ?zqk5 ?zqk6 ?_; walk_at "K4"; walk_at "K56"; walk_at "KN"))
  k_with "getMethod ref" => (k_here; (with_reducible show wpAny _ _ (getMethod (Value.ref _) _ _) _ _ _); k_dflt (refine' tab_meth ?zqk1 ?zqk2 ?zqk3 ?zqk4 ?zqk5 ?zqk6 ?zqk7 ?zqk8 ?_; walk_at "K4"; (case zqk5 => k_is); (case zqk6 => k_is); (case zqk7 => k_is); (case zqk8 => decide +kernel); k_whole))
  k_with "call builtin:len" => (k_here; (with_reducible show wpAny _ _ (call (Value.builtin "len") [Value.ref _]) _ _ _); k_dflt (first | (refine' len_nodes ?zqk3 ?zqk4 ?_; (case zqk3 => k_asm); (case zqk4 => k_asm); k_whole; intro tk' tj'; (try dsimp only)) | (refine' len_arr ?zqk3 ?zqk4 ?_; (case zqk3 => k_asm); (case zqk4 => k_asm); k_whole; intro tk' tj'; (try dsimp only))))
  k_with "subscriptTail" => (k_here; (with_reducible show wpAny _ _ (subscriptTail _ _ (Value.ref _) (Value.int _ _)) _ _ _); k_dflt (first | (refine' item_node ?zqk3 ?zqk4 ?zqk5 ?zqk6 ?_ ?zqk7; (case zqk3 => k_asm); (case zqk4 => k_asm); (case zqk5 => assumption); (case zqk6 => first | assumption | omega); (case zqk7 => with_unfolding_all rfl); k_whole) | (refine' item_arr ?zqk3 ?zqk4 ?zqk5 ?zqk6 ?_ ?zqk7; (case zqk3 => k_asm); (case zqk4 => k_asm); (case zqk5 => assumption); (case zqk6 => first | assumption | omega); (case zqk7 => with_unfolding_all rfl); k_whole)))
  k_with "setItem ref int" => (k_here; (with_reducible show wpAny _ _ (setItem (Value.ref _) (Value.int _ _) _) _ _ _); k_dflt (refine' set_arr ?zqk1 ?zqk3 ?zqk4 ?zqk5 ?zqk6 ?_; (case zqk1 => k_asm); (case zqk3 => k_asm); (case zqk4 => k_asm); (case zqk5 => omega); (case zqk6 => (try dsimp only); omega); k_whole; intro h' n' F' N' hT' hK'; (try dsimp only); (try k_sweep)))
  k_with "call builtin:list.append" => (k_here; (with_reducible show wpAny _ _ (call (Value.builtin _) [Value.ref _, _]) _ _ _); k_dflt (refine' app_arr ?zqk1 ?zqk3 ?zqk4 ?zqk5 ?_; (case zqk1 => k_asm); (case zqk3 => k_asm); (case zqk4 => k_asm); (case zqk5 => (try dsimp only); omega); k_whole; intro h' n' F' N' hT' hK'; (try dsimp only); (try k_sweep)))
  k_with "compareOp Is" => (k_here; (with_reducible show wpAny _ _ (compareOp CmpOp.Is _ Value.none) _ _ _); k_dflt (refine' kv_isnone ?zqk1 ?_; (case zqk1 => assumption); k_whole))
  k_with "exec For Name Name cons nil" => (k_here; (rename Fr _ _ _ _ => lF'); (with_unfolding_all refine' For_invVF lF' ?zqk1 ?zqk2 ?_; (case zqk1 => exact rfl); (case zqk2 => exact rfl); k_whole))
  k_with "exec For Name Call cons nil" => (k_here; (rename Fr _ _ _ _ => lF'); (with_unfolding_all refine' For_invVF lF' ?zqk1 ?zqk2 ?_; (case zqk1 => exact rfl); (case zqk2 => exact rfl); k_whole))
  k_with "exec For Name Attribute cons nil" => (k_here; (rename Fr _ _ _ _ => lF'); (with_unfolding_all refine' For_invVF lF' ?zqk1 ?zqk2 ?_; (case zqk1 => exact rfl); (case zqk2 => exact rfl); k_whole))
  k_with "TP" => ((first | (with_reducible show Mine.TP _ _ _ _ _ _ (Flow.ret _) _) | (with_reducible show Mine.TP _ _ _ _ _ _ Flow.brk _) | (with_reducible show Mine.TP _ _ _ _ _ _ Flow.next _) | (with_reducible show Mine.TP _ _ _ _ _ _ Flow.cont _)); (dsimp only [Mine.TP]))
  k_with "compareOp Is" => (k_here; (with_reducible show wpAny _ _ (compareOp CmpOp.Is _ Value.none) _ _ _); k_dflt (first | (refine' is_eq ?zqk1 ?_; (case zqk1 => assumption); k_whole) | (refine' is_ne ?zqk1 ?_; (case zqk1 => assumption); k_whole)))
  k_with "compareOp IsNot" => (k_here; (with_reducible show wpAny _ _ (compareOp CmpOp.IsNot _ Value.none) _ _ _); k_dflt (first | (refine' isnot_eq ?zqk1 ?_; (case zqk1 => assumption); k_whole) | (refine' isnot_ne ?zqk1 ?_; (case zqk1 => assumption); k_whole)))
  k_with "call ref" => (k_here; k_dflt ((refine' Spec.useI (arrix_spec _ (by assumption)) ?zqk1 ?zqk2 ?zqk3 ?zqk4 ?zqk5 ?zqkK ?zqkP ?zqkd ?zqku ?_; (case zqk1 => k_asm); (case zqk2 => k_asm); (case zqk3 => k_asm); (case zqk4 => k_asm); (case zqk5 => k_asm); (case zqkK => first | exact rfl | assumption); (case zqkP => trivial); (case zqkd => walk_at "KD"); (case zqku => walk_at "KU"); k_whole; intro t1 h' tk' F' N'); (try dsimp only); (try k_sweep)))
  k_with "call ref" => (k_here; k_dflt ((refine' Spec.useI (find_spec _ _ _ _ (by first | assumption | exact KV.int _ _) (by first | assumption | trivial) _ (by assumption)) ?zqk1 ?zqk2 ?zqk3 ?zqk4 ?zqk5 ?zqkK ?zqkP ?zqkd ?zqku ?_; (case zqk1 => k_asm); (case zqk2 => k_asm); (case zqk3 => k_asm); (case zqk4 => k_asm); (case zqk5 => k_asm); (case zqkK => first | exact rfl | assumption); (case zqkP => assumption); (case zqkd => walk_at "KD"); (case zqku => walk_at "KU"); k_whole; intro t1 h' tk' F' N'); (try dsimp only); (try k_sweep)))
  k_with "call ref" => (k_here; k_dflt ((refine' Spec.useT (nk_spec _ _ _ _ _ _ _ _ _ (by assumption) (by assumption) (by assumption) (by assumption)) ?zqk1 ?zqk2 ?zqk3 ?zqk4 ?zqk5 ?zqkK ?zqkP ?zqkd ?zqku ?_; (case zqk1 => k_asm); (case zqk2 => k_asm); (case zqk3 => k_asm); (case zqk4 => k_asm); (case zqk5 => k_asm); (case zqkK => first | exact rfl | assumption); (case zqkP => assumption); (case zqkd => walk_at "KD"); (case zqku => walk_at "KU"); k_whole; intro h' tk' n' Y9 F' N' hT9 hS9); (try dsimp only); (try k_sweep)))
  k_with "call builtin:len" => (k_here; (with_reducible show wpAny _ _ (call (Value.builtin "len") [Value.ref _]) _ _ _); k_dflt (first | (refine' len_nodes ?zqk1 ?zqk2 ?_; (case zqk1 => k_asm); (case zqk2 => k_asm); k_whole; intro tk' tj'; (try dsimp only)) | (refine' len_arr ?zqk1 ?zqk2 ?_; (case zqk1 => k_asm); (case zqk2 => k_asm); k_whole; intro tk' tj'; (try dsimp only))))
  exact trivial
set_option maxRecDepth 100000 in
set_option maxHeartbeats 8000000 in
theorem put_spec (w : World) (t : Addr) (Y : Lay) (T : Tab) (kv : Value) (k : PKey) (v : Value) (T' : Tab) (hkv : KV kv (some k)) (ok : KeyOk k) (hv : handedIn v = true) (h : setT T k v = some T') : Spec w 287 [.ref t, kv, v, .none] 150 (fun nw => TabIn nw t Y T) (TabNew t Y T') := by
  unfold Spec
  k_fill
  intro mean mg mb dp un gd cn cs a ccd cl outer A₀ base h₀ L m news s Q E B F X N TP hk hP hd hu hret
  w_top on
  w_on
  rename TabIn _ _ _ _ => hT
  have hasz := hT.asz
  have hM9 := haltAt "JOIN"
  k_with "isTrue Compare" => ((have hJ9 : HaltAt "JOIN" := by assumption); clear hJ9; (k_dflt ((with_reducible show wpAny _ _ (isTrue (Expr.Compare _ [_, _] _ _) _ _) _ _ _); (fail_if_success (with_reducible show wpAny _ _ _ (JoinB _ _) _ _)); (refine join_test (decide (1 ≤ (arrIx k) ∧ (arrIx k) ≤ (T.arr.length : Int))) ?_ ?_); (focus (k_steps; (all_goals first | exact ⟨join_and_t (by omega) (by omega), _, rfl⟩ | exact ⟨join_and_f (by omega), _, rfl⟩ | exact ⟨by rw [decide_eq_decide]; omega, _, rfl⟩))); (intro tj9; (try dsimp only); (try rw [hb]))) ))
  cases hb : decide (1 ≤ arrIx k ∧ arrIx k ≤ (T.arr.length : Int)) with
  | true =>
    have hb' := of_decide_eq_true hb
    rw [setT, if_pos hb'] at h
    obtain rfl := Option.some.inj h
    k_steps
    exact hret _ _ _ _ (by k_asm) (by k_asm) ⟨rfl, _, by assumption, .of (by assumption)⟩
  | false =>
    rw [setT, if_neg (of_decide_eq_false hb)] at h
    obtain ⟨at1, hf, h⟩ := Option.bind_eq_some_iff.mp h
    by_cases hn : at1 < 0
    · rw [if_pos hn] at h
      have h3 : newKey 2 T k v = some T' := h
      have hn' : ¬ at1 ≥ 0 := by omega
      k_steps
      exact hret _ _ _ _ (by k_asm) (by k_asm) ⟨rfl, _, by assumption, by assumption⟩
    · rw [if_neg hn] at h
      obtain ⟨i, x, rfl, hx, rfl⟩ := updN_some h
      obtain ⟨p, hp⟩ := hT.at (lt_of_get hx)
      k_steps
      exact hret _ _ _ _ (by k_asm) (by k_asm) ⟨rfl, _, by assumption, .of (by assumption)⟩
theorem wd_P23_41 : True := by
  k_with "call ref" => (k_here; k_dflt ((refine' Spec.useT (put_spec _ _ _ _ _ _ _ _ (by assumption) (by assumption) (by assumption) (by assumption)) ?zqk1 ?zqk2 ?zqk3 ?zqk4 ?zqk5 ?zqkK ?zqkP ?zqkd ?zqku ?_; (case zqk1 => k_asm); (case zqk2 => k_asm); (case zqk3 => k_asm); (case zqk4 => k_asm); (case zqk5 => k_asm); (case zqkK => first | exact rfl | assumption); (case zqkP => assumption); (case zqkd => walk_at "KD"); (case zqku => walk_at "KU"); k_whole; intro h' tk' n' Y9 F' N' hT9 hS9); (try dsimp only); (try k_sweep)))
  exact trivial
theorem kv_isnone' {w : World} {A : Around} {E : Value → Shared → Prop} {s : Shared} {Q : Value → Shared → Prop} {kv : Value} {k : PKey} (hk : KV kv (some k)) (h : Q (.bool false) s) : wpAny (model PySem.Challenge.rw_pq0681_01.row.prog w) A (compareOp .Is kv .none) Q E s := by
  cases hk <;> exact fun _ _ _ => h
set_option maxRecDepth 100000 in
set_option maxHeartbeats 8000000 in
theorem set_spec (w : World) (t : Addr) (Y : Lay) (T : Tab) (kv : Value) (k : PKey) (v : Value) (T' : Tab) (hkv : KV kv (some k)) (ok : KeyOk k) (hv : handedIn v = true) (h : setT T k v = some T') : Spec w 266 [.ref t, kv, v, .none] 155 (fun nw => TabIn nw t Y T) (TabNew t Y T') := by
  unfold Spec
  k_fill
  intro mean mg mb dp un gd cn cs a ccd cl outer A₀ base h₀ L m news s Q E B F X N TP hk hP hd hu hret
  w_top on
  w_on
  rename TabIn _ _ _ _ => hT
  k_steps
  exact hret _ _ _ _ (by k_asm) (by k_asm) ⟨rfl, _, by assumption, .trans (.of (by assumption)) (by assumption)⟩

end
section
/-! going through a table -/
noncomputable def slotA : List Value → Int → List (Option (PKey × Value))
  | [], _ => []
  | v :: r, i => (if v = .none then none else some (.int i, v)) :: slotA r (i + 1)
noncomputable def slotN (x : PNode) : Option (PKey × Value) := if x.val = .none then none else x.key.map fun k => (k, x.val)
noncomputable def slots (T : Tab) : List (Option (PKey × Value)) := slotA T.arr 1 ++ T.nodes.map slotN
noncomputable def nextP (T : Tab) (i : Nat) : Option (PKey × Value) := ((slots T).drop i).findSome? id
abbrev inArr (T : Tab) (k : PKey) : Prop := 1 ≤ arrIx k ∧ arrIx k ≤ (T.arr.length : Int)
/-- the place of a key that is in the table -/
noncomputable def idxP (T : Tab) (k : PKey) : Option Nat :=
  if inArr T k then some (arrIx k - 1).toNat else (findP T k).bind fun i => if i < 0 then none else some (T.arr.length + i.toNat)
inductive GoneFrom (T : Tab) : Nat → List (PKey × Value) → Prop
  | nil {i : Nat} : nextP T i = none → GoneFrom T i []
  | cons {i a : Nat} {k : PKey} {v : Value} {es : List (PKey × Value)} : nextP T i = some (k, v) → KeyOk k → idxP T k = some a → GoneFrom T (a + 1) es → GoneFrom T i ((k, v) :: es)
theorem slotA_len (l : List Value) (i : Int) : (slotA l i).length = l.length := by
  induction l generalizing i with
  | nil => rfl
  | cons v r ih => rw [slotA, List.length_cons, List.length_cons, ih]
theorem slotA_get (l : List Value) (i : Int) (n : Nat) : (slotA l i)[n]? = (l[n]?).map fun v => if v = .none then none else some (.int (i + n), v) := by
  induction l generalizing i n with
  | nil => rfl
  | cons v r ih =>
    cases n with
    | zero => simp [slotA]
    | succ n => rw [slotA, List.getElem?_cons_succ, List.getElem?_cons_succ, ih, show i + 1 + (n : Int) = i + ((n + 1 : Nat) : Int) by omega]
theorem nextP_arr {T : Tab} {i : Nat} {v : Value} (h : T.arr[i]? = some v) : nextP T i = if v = .none then nextP T (i + 1) else some (.int (i + 1), v) := by
  have hi := (List.getElem?_eq_some_iff.mp h).1
  have hs : (slots T)[i]? = some (if v = .none then none else some (.int (1 + i), v)) := by
    unfold slots
    rw [List.getElem?_append_left (by rw [slotA_len]; exact hi), slotA_get, h]; rfl
  unfold nextP
  rw [List.drop_eq_getElem_cons (List.getElem?_eq_some_iff.mp hs).1, List.findSome?_cons, (List.getElem?_eq_some_iff.mp hs).2]
  by_cases hv : v = .none
  · rw [if_pos hv, if_pos hv]; rfl
  · rw [if_neg hv, if_neg hv, Int.add_comm]; rfl
theorem nextP_node {T : Tab} {i : Nat} {x : PNode} (h : T.nodes[i]? = some x) : nextP T (T.arr.length + i) = match slotN x with
    | none => nextP T (T.arr.length + (i + 1))
    | some e => some e := by
  have hs : (slots T)[T.arr.length + i]? = some (slotN x) := by
    unfold slots
    rw [List.getElem?_append_right (by rw [slotA_len]; omega), slotA_len, Nat.add_sub_cancel_left, List.getElem?_map, h]; rfl
  unfold nextP
  rw [List.drop_eq_getElem_cons (List.getElem?_eq_some_iff.mp hs).1, List.findSome?_cons, (List.getElem?_eq_some_iff.mp hs).2]
  cases slotN x <;> rfl
theorem nextP_end {T : Tab} {i : Nat} (h : T.nodes.length ≤ i) : nextP T (T.arr.length + i) = none := by
  unfold nextP
  rw [List.drop_eq_nil_of_le]
  · rfl
  · unfold slots
    rw [List.length_append, slotA_len, List.length_map]; omega

end
section
theorem wd_P24_0 : True := by
  k_with_none
  exact trivial
theorem wd_P24_42 : True := by
  k_with "KD" => first | exact dlt (by assumption) (by first | decide | omega) | exact dlt1 (by assumption) (by first | decide | omega) | exact dlt0 (by assumption) | ktr_room
  k_with "KU" => first | exact ult (by assumption) (by first | decide | omega) | ktr_units
  k_with "ENTER" => (refine' enter_ ?zqk1 ?zqk2 ?zqk3 ?zqk4 ?zqk5 ?zqkA ?zqkF ?zqkK ?zqk6 ?zqk7 ?zqk8 ?zqk9 ?zqkB ?_ ?zqc2 ?zqc3 ?zqc4 ?zqc5; (case zqkA => exact rfl); (case zqkF => exact rfl); (case zqkK => first | exact rfl | assumption); (case zqk1 => k_asm); (case zqk2 => k_asm); (case zqk3 => k_asm); (case zqk4 => k_asm); (case zqk5 => k_asm); (case zqk6 => k_is); (case zqk7 => k_is); (case zqk8 => walk_at "KD"); (case zqk9 => first | exact BindsTo.of_eq rfl | exact binds_K (by k_in) rfl (by k_is) rfl rfl rfl | fail "ENTER: no rule for these arguments"); (case zqc5 => decide); (case zqkB => exact locs rfl); (case zqc2 => exact rfl); (case zqc3 => exact rfl); (case zqc4 => exact rfl); k_whole; intro g' L' h' tk' FG' mm F' N' B' X' T' qk ek)
  k_with "call ref" => (k_here; k_dflt (first | (refine' call_cls0 ?zqk1 ?zqk2 ?zqk3 ?zqk4 ?zqk5 ?_; (case zqk1 => k_asm); (case zqk2 => k_asm); (case zqk3 => k_asm); (case zqk4 => k_is); (case zqk5 => k_is); k_whole; intro x' d' h' F' N' l1 l2; (try k_lt l1); (try k_lt2 l2); (try k_sweep)) | (refine' call_cls ?zqk1 ?zqk2 ?zqk3 ?zqk4 ?zqk5 ?zqk6 ?_; (case zqk1 => k_asm); (case zqk2 => k_asm); (case zqk3 => k_asm); (case zqk4 => k_is); (case zqk5 => k_is); (case zqk6 => k_is); k_whole; intro x' d' h' F' N' l1 l2; (try k_lt l1); (try k_lt2 l2); (try k_sweep); walk_at "ENTER") | (refine' call_meth ?zqk1 ?zqk2 ?_; (case zqk1 => k_asm); (case zqk2 => k_mem); k_whole; walk_at "ENTER") | (refine wpAny_call ?_; walk_at "ENTER")))
  k_with "call builtin:len" => (k_here; (with_reducible show wpAny _ _ (call (Value.builtin "len") [Value.ref _]) _ _ _); k_dflt (refine' kst_len ?zqk1 ?zqk2 ?zqk3 ?zqk4 ?_; (case zqk1 => k_asm); (case zqk2 => k_mem); (case zqk3 => first | assumption | exact rfl); (case zqk4 => omega); k_whole))
  k_with "WhileStep2" => (first | (with_reducible show WhileStep2 _ _ _ _ _ _ (Flow.ret _) _) | (with_reducible show WhileStep2 _ _ _ _ _ _ Flow.brk _)); (dsimp only [WhileStep2])
  k_with "execs cons" => (k_here; refine wpAny_execs_cons (foldQ ?_); intro qs)
  k_with "storeName" => (k_here; (try dsimp only); k_dflt (refine' store_ ?zqF ?zqN ?_ ?zqa ?zqb; (case zqF => k_asm); (case zqN => k_asm); (case zqa => first | exact rfl | assumption); (case zqb => rfl); k_whole; intro h' tk' mm F' N'; (try k_sweep)))
  k_with "exec While Compare cons nil" => refine Halt.go ?_
  k_with "pyIter ref" => refine Halt.go ?_
  k_with "call type:enumerate" => refine Halt.go ?_
  k_with "KswEnd" => refine Halt.at (k := "KswEnd") (by assumption) ?_
  k_with "subscriptTail" => refine Halt.at (k := "subscriptTail") (by assumption) ?_
  k_with "eval ListComp" => refine Halt.at (k := "eval ListComp") (by assumption) ?_
  k_with "CompSrc" => refine Halt.at (k := "CompSrc") (by assumption) ?_
  k_with "CompEnd" => refine Halt.at (k := "CompEnd") (by assumption) ?_
  k_with "call ref" => refine Halt.at (k := "call ref") (by assumption) ?_
  k_with "call builtin:sorted" => refine Halt.at (k := "call builtin:sorted") (by assumption) ?_
  k_with "call builtin:repr" => refine Halt.at (k := "call builtin:repr") (by assumption) ?_
  k_with "unpackItems ref" => refine Halt.at (k := "unpackItems ref") (by assumption) ?_
  k_with "compareOp Eq ref ref" => refine Halt.at (k := "compareOp Eq ref ref") (by assumption) ?_
  k_with "call type:str" => refine Halt.at (k := "call type:str") (by assumption) ?_
  k_with "K4" => ((case zqk1 => k_asm); (case zqk2 => k_asm); (case zqk3 => k_asm); (case zqk4 => k_asm))
  k_with "K56" => ((case zqk5 => first | assumption | (with_unfolding_all assumption)); (case zqk6 => first | assumption | (with_unfolding_all assumption)))
  k_with "KN" => (k_whole; intro h' tj' n' F' N' hT' hK'; (try dsimp only); (try k_sweep))
  k_with "getAttr ref" => (k_here; (with_reducible show wpAny _ _ (getAttr (Value.ref _) (PySem.Str.ofString "free") _) _ _ _); k_dflt (refine' get_free ?zqk1 ?zqk2 ?zqk3 ?zqk4 ?_; walk_at "K4"; k_whole; intro tk' tj'; (try dsimp only)))
  k_with "getAttr ref" => (k_here; (with_reducible show wpAny _ _ (getAttr (Value.ref _) (PySem.Str.ofString "size") _) _ _ _); k_dflt (refine' get_size ?zqk1 ?zqk2 ?zqk3 ?zqk4 ?_; walk_at "K4"; k_whole; intro tk' tj'; (try dsimp only)))
  k_with "getAttr ref" => (k_here; (with_reducible show wpAny _ _ (getAttr (Value.ref _) (PySem.Str.ofString "array") _) _ _ _); k_dflt (refine' get_array ?zqk1 ?zqk2 ?zqk3 ?zqk4 ?_; walk_at "K4"; k_whole; intro tj'; (try dsimp only)))
  k_with "getAttr ref" => (k_here; (with_reducible show wpAny _ _ (getAttr (Value.ref _) (PySem.Str.ofString "nodes") _) _ _ _); k_dflt (refine' get_nodes ?zqk1 ?zqk2 ?zqk3 ?zqk4 ?_; walk_at "K4"; k_whole; intro tj'; (try dsimp only)))
  k_with "getAttr ref" => (k_here; (with_reducible show wpAny _ _ (getAttr (Value.ref _) (PySem.Str.ofString "key") _) _ _ _); k_dflt (first | (refine' get_key_none ?zqk1 ?zqk2 ?zqk3 ?zqk4 ?zqk5 ?zqk6 ?zqk7 ?_; walk_at "K4"; walk_at "K56"; (case zqk7 => assumption); k_whole; intro tj'; (try dsimp only)) | (refine' get_key_some ?zqk1 ?zqk2 ?zqk3 ?zqk4 ?zqk5 ?zqk6 ?zqk7 ?_; walk_at "K4"; walk_at "K56"; (case zqk7 => assumption); k_whole; intro kv' tj' hkv'; (try dsimp only)) | (refine' get_key_any ?zqk1 ?zqk2 ?zqk3 ?zqk4 ?zqk5 ?zqk6 ?_; walk_at "K4"; walk_at "K56"; k_whole; intro kv' tj' hkv'; (try dsimp only))))
  k_with "getAttr ref" => (k_here; (with_reducible show wpAny _ _ (getAttr (Value.ref _) (PySem.Str.ofString "value") _) _ _ _); k_dflt (refine' get_value ?zqk1 ?zqk2 ?zqk3 ?zqk4 ?zqk5 ?zqk6 ?_; walk_at "K4"; walk_at "K56"; k_whole; intro tj'; (try dsimp only)))
  k_with "getAttr ref" => (k_here; (with_reducible show wpAny _ _ (getAttr (Value.ref _) (PySem.Str.ofString "next") _) _ _ _); k_dflt (refine' get_next ?zqk1 ?zqk2 ?zqk3 ?zqk4 ?zqk5 ?zqk6 ?_; walk_at "K4"; walk_at "K56"; k_whole; intro tk' tj'; (try dsimp only)))
  k_with "setAttr ref" => (k_here; (with_reducible show wpAny _ _ (setAttr (Value.ref _) (PySem.Str.ofString "free") _) _ _ _); k_dflt (refine' set_free ?zqk1 ?zqk2 ?zqk3 ?zqk4 ?_; walk_at "K4"; walk_at "KN"))
  k_with "setAttr ref" => (k_here; (with_reducible show wpAny _ _ (setAttr (Value.ref _) (PySem.Str.ofString "size") _) _ _ _); k_dflt (refine' set_size ?zqk1 ?zqk2 ?zqk3 ?zqk4 ?_; walk_at "K4"; walk_at "KN"))
  k_with "setAttr ref" => (k_here; (with_reducible show wpAny _ _ (setAttr (Value.ref _) (PySem.Str.ofString "flags") _) _ _ _); k_dflt (refine' set_flags ?zqk1 ?zqk2 ?zqk3 ?zqk4 ?_; walk_at "K4"; walk_at "KN"))
  k_with "setAttr ref" => (k_here; (with_reducible show wpAny _ _ (setAttr (Value.ref _) (PySem.Str.ofString "log_nodes") _) _ _ _); k_dflt (refine' set_log_nodes ?zqk1 ?zqk2 ?zqk3 ?zqk4 ?_; walk_at "K4"; walk_at "KN"))
  k_with "setAttr ref" => (k_here; (with_reducible show wpAny _ _ (setAttr (Value.ref _) (PySem.Str.ofString "key") _) _ _ _); k_dflt (refine' set_key ?zqk1 ?zqk2 ?zqk3 ?zqk4 ?zqk5 ?zqk6 ?zqk7 ?_; walk_at "K4"; walk_at "K56"; (case zqk7 => first | assumption | exact KV.none); walk_at "KN"))
  k_with "setAttr ref" => (k_here; (with_reducible show wpAny _ _ (setAttr (Value.ref _) (PySem.Str.ofString "value") _) _ _ _); k_dflt (refine' set_value ?zqk1 ?zqk2 ?zqk3 ?zqk4 ?zqk5 ?zqk6 ?zqk7 ?_; walk_at "K4"; walk_at "K56"; (case zqk7 => first | assumption | rfl); walk_at "KN"))
  k_with "setAttr ref" => (k_here; (with_reducible show wpAny _ _ (setAttr (Value.ref _) (PySem.Str.ofString "next") _) _ _ _); k_dflt (refine' set_next ?zqk1 ?zqk2 ?zqk3 ?zqk4 ?zqk5 ?zqk6 ?_; walk_at "K4"; walk_at "K56"; walk_at "KN"))
  k_with "getMethod ref" => (k_here; (with_reducible show wpAny _ _ (getMethod (Value.ref _) _ _) _ _ _); k_dflt (refine' tab_meth ?zqk1 ?zqk2 ?zqk3 ?zqk4 ?zqk5 ?zqk6 ?zqk7 ?zqk8 ?_; walk_at "K4"; (case zqk5 => k_is); (case zqk6 => k_is); (case zqk7 => k_is); (case zqk8 => decide +kernel); k_whole))
  k_with "call builtin:len" => (k_here; (with_reducible show wpAny _ _ (call (Value.builtin "len") [Value.ref _]) _ _ _); k_dflt (first | (refine' len_nodes ?zqk3 ?zqk4 ?_; (case zqk3 => k_asm); (case zqk4 => k_asm); k_whole; intro tk' tj'; (try dsimp only)) | (refine' len_arr ?zqk3 ?zqk4 ?_; (case zqk3 => k_asm); (case zqk4 => k_asm); k_whole; intro tk' tj'; (try dsimp only))))
  k_with "subscriptTail" => (k_here; (with_reducible show wpAny _ _ (subscriptTail _ _ (Value.ref _) (Value.int _ _)) _ _ _); k_dflt (first | (refine' item_node ?zqk3 ?zqk4 ?zqk5 ?zqk6 ?_ ?zqk7; (case zqk3 => k_asm); (case zqk4 => k_asm); (case zqk5 => assumption); (case zqk6 => first | assumption | omega); (case zqk7 => with_unfolding_all rfl); k_whole) | (refine' item_arr ?zqk3 ?zqk4 ?zqk5 ?zqk6 ?_ ?zqk7; (case zqk3 => k_asm); (case zqk4 => k_asm); (case zqk5 => assumption); (case zqk6 => first | assumption | omega); (case zqk7 => with_unfolding_all rfl); k_whole)))
  k_with "setItem ref int" => (k_here; (with_reducible show wpAny _ _ (setItem (Value.ref _) (Value.int _ _) _) _ _ _); k_dflt (refine' set_arr ?zqk1 ?zqk3 ?zqk4 ?zqk5 ?zqk6 ?_; (case zqk1 => k_asm); (case zqk3 => k_asm); (case zqk4 => k_asm); (case zqk5 => omega); (case zqk6 => (try dsimp only); omega); k_whole; intro h' n' F' N' hT' hK'; (try dsimp only); (try k_sweep)))
  k_with "call builtin:list.append" => (k_here; (with_reducible show wpAny _ _ (call (Value.builtin _) [Value.ref _, _]) _ _ _); k_dflt (refine' app_arr ?zqk1 ?zqk3 ?zqk4 ?zqk5 ?_; (case zqk1 => k_asm); (case zqk3 => k_asm); (case zqk4 => k_asm); (case zqk5 => (try dsimp only); omega); k_whole; intro h' n' F' N' hT' hK'; (try dsimp only); (try k_sweep)))
  k_with "compareOp Is" => (k_here; (with_reducible show wpAny _ _ (compareOp CmpOp.Is _ Value.none) _ _ _); k_dflt (refine' kv_isnone ?zqk1 ?_; (case zqk1 => assumption); k_whole))
  k_with "exec For Name Name cons nil" => (k_here; (rename Fr _ _ _ _ => lF'); (with_unfolding_all refine' For_invVF lF' ?zqk1 ?zqk2 ?_; (case zqk1 => exact rfl); (case zqk2 => exact rfl); k_whole))
  k_with "exec For Name Call cons nil" => (k_here; (rename Fr _ _ _ _ => lF'); (with_unfolding_all refine' For_invVF lF' ?zqk1 ?zqk2 ?_; (case zqk1 => exact rfl); (case zqk2 => exact rfl); k_whole))
  k_with "exec For Name Attribute cons nil" => (k_here; (rename Fr _ _ _ _ => lF'); (with_unfolding_all refine' For_invVF lF' ?zqk1 ?zqk2 ?_; (case zqk1 => exact rfl); (case zqk2 => exact rfl); k_whole))
  k_with "TP" => ((first | (with_reducible show Mine.TP _ _ _ _ _ _ (Flow.ret _) _) | (with_reducible show Mine.TP _ _ _ _ _ _ Flow.brk _) | (with_reducible show Mine.TP _ _ _ _ _ _ Flow.next _) | (with_reducible show Mine.TP _ _ _ _ _ _ Flow.cont _)); (dsimp only [Mine.TP]))
  k_with "compareOp Is" => (k_here; (with_reducible show wpAny _ _ (compareOp CmpOp.Is _ Value.none) _ _ _); k_dflt (first | (refine' is_eq ?zqk1 ?_; (case zqk1 => assumption); k_whole) | (refine' is_ne ?zqk1 ?_; (case zqk1 => assumption); k_whole)))
  k_with "compareOp IsNot" => (k_here; (with_reducible show wpAny _ _ (compareOp CmpOp.IsNot _ Value.none) _ _ _); k_dflt (first | (refine' isnot_eq ?zqk1 ?_; (case zqk1 => assumption); k_whole) | (refine' isnot_ne ?zqk1 ?_; (case zqk1 => assumption); k_whole)))
  exact trivial

set_option maxRecDepth 100000 in
set_option maxHeartbeats 8000000 in
theorem isinst_dead {w : World} {A : Around} {E : Value → Shared → Prop} {s : Shared} {h₀ : Heap} {L : Addr} {m : Str → Option Value} {Q : Value → Shared → Prop} {kv : Value} {o : Option PKey} (F : Fr h₀ L s.heap m) (X : (Mine.hd.heap_1 w.params).In h₀) (hk : KV kv o)
    (h : ∀ tk, Q (.bool false) { s with toks := tk }) :
    wpAny (model PySem.Challenge.rw_pq0681_01.row.prog w) A (call (.builtin "isinstance") [kv, .ref 149]) Q E s := by
  have fill : PySem.Challenge.rw_pq0681_01.row.prog = PySem.Challenge.rw_pq0681_01.row.prog ∧ (Mine.hd.heap_1 w.params).In h₀ := by
    k_fill
    exact ⟨rfl, X⟩
  cases hk
  · refine' kia_one kitx_none (X.keeps F.keep) trivial ?ee ?nb h
    case ee => kit_is
    case nb => kit_nb
  · refine' kia_one kitx_int (X.keeps F.keep) trivial ?ee ?nb h
    case ee => kit_is
    case nb => kit_nb
  · refine' kia_one kitx_bytes (X.keeps F.keep) trivial ?ee ?nb h
    case ee => kit_is
    case nb => kit_nb
theorem wd_P24_43 : True := by
  k_with "call builtin:isinstance" => (k_here; (with_reducible show wpAny _ _ (call _ [_, Value.ref 149]) _ _ _); k_dflt (refine' isinst_dead ?zqk1 ?zqk2 ?zqk3 ?_; (case zqk1 => k_asm); (case zqk2 => k_asm); (case zqk3 => assumption); k_whole; intro tk'))
  k_with "call ref" => (k_here; k_dflt ((refine' Spec.useI (arrix_spec _ (by assumption)) ?zqk1 ?zqk2 ?zqk3 ?zqk4 ?zqk5 ?zqkK ?zqkP ?zqkd ?zqku ?_; (case zqk1 => k_asm); (case zqk2 => k_asm); (case zqk3 => k_asm); (case zqk4 => k_asm); (case zqk5 => k_asm); (case zqkK => first | exact rfl | assumption); (case zqkP => trivial); (case zqkd => walk_at "KD"); (case zqku => walk_at "KU"); k_whole; intro t1 h' tk' F' N'); (try dsimp only); (try k_sweep)))
  k_with "call ref" => (k_here; k_dflt ((refine' Spec.useB (raweq_spec _ (by assumption) (by assumption)) ?zqk1 ?zqk2 ?zqk3 ?zqk4 ?zqk5 ?zqkK ?zqkP ?zqkd ?zqku ?_; (case zqk1 => k_asm); (case zqk2 => k_asm); (case zqk3 => k_asm); (case zqk4 => k_asm); (case zqk5 => k_asm); (case zqkK => first | exact rfl | assumption); (case zqkP => trivial); (case zqkd => walk_at "KD"); (case zqku => walk_at "KU"); k_whole; intro h' tk' F' N'); (try dsimp only); (try k_sweep)))
  k_with "call ref" => (k_here; k_dflt ((refine' Spec.useI (main_spec _ _ _ _ (by assumption) (by assumption)) ?zqk1 ?zqk2 ?zqk3 ?zqk4 ?zqk5 ?zqkK ?zqkP ?zqkd ?zqku ?_; (case zqk1 => k_asm); (case zqk2 => k_asm); (case zqk3 => k_asm); (case zqk4 => k_asm); (case zqk5 => k_asm); (case zqkK => first | exact rfl | assumption); (case zqkP => (refine ⟨by assumption, ?_⟩; omega)); (case zqkd => walk_at "KD"); (case zqku => walk_at "KU"); k_whole; intro t1 h' tk' F' N'); (try dsimp only); (try k_sweep)))
  k_with "call builtin:len" => (k_here; (with_reducible show wpAny _ _ (call (Value.builtin "len") [Value.ref _]) _ _ _); k_dflt (first | (refine' len_nodes ?zqk1 ?zqk2 ?_; (case zqk1 => k_asm); (case zqk2 => k_asm); k_whole; intro tk' tj'; (try dsimp only)) | (refine' len_arr ?zqk1 ?zqk2 ?_; (case zqk1 => k_asm); (case zqk2 => k_asm); k_whole; intro tk' tj'; (try dsimp only))))
  exact trivial
set_option maxRecDepth 100000 in
set_option maxHeartbeats 8000000 in
theorem findix_none (w : World) (t : Addr) (Y : Lay) (T : Tab) : Spec w 363 [.ref t, .none] 12 (fun nw => TabIn nw t Y T) (SameI (-1)) := by
  unfold Spec
  k_fill
  intro mean mg mb dp un gd cn cs a ccd cl outer A₀ base h₀ L m news s Q E B F X N TP hk hP hd hu hret
  w_top on
  w_on
  k_steps
  all_goals first | exact hret _ _ _ _ (by k_asm) (by first | k_asm | exact News.tl (by k_asm) | exact News.tl (News.tl (by k_asm)) | exact News.tl (News.tl (News.tl (by k_asm)))) ⟨rfl, _, rfl⟩ | skip
set_option maxRecDepth 100000 in
set_option maxHeartbeats 8000000 in
theorem findix_spec (w : World) (t : Addr) (Y : Lay) (T : Tab) {kv : Value} {k : PKey} (hkv : KV kv (some k)) (ok : KeyOk k) (ix : Nat) (ha : idxP T k = some ix) : Spec w 363 [.ref t, kv] 12 (fun nw => TabIn nw t Y T) (SameI (ix : Int)) := by
  unfold Spec
  k_fill
  intro mean mg mb dp un gd cn cs a ccd cl outer A₀ base h₀ L m news s Q E B F X N TP hk hP hd hu hret
  w_top on
  w_on
  rename TabIn _ _ _ _ => hT
  have hasz := hT.asz
  have hM9 := haltAt "JOIN"
  k_with "isTrue Compare" => ((have hJ9 : HaltAt "JOIN" := by assumption); clear hJ9; (k_dflt ((with_reducible show wpAny _ _ (isTrue (Expr.Compare _ [_, _] _ _) _ _) _ _ _); (fail_if_success (with_reducible show wpAny _ _ _ (JoinB _ _) _ _)); (refine join_test (decide (1 ≤ (arrIx k) ∧ (arrIx k) ≤ (T.arr.length : Int))) ?_ ?_); (focus (k_steps; (all_goals first | exact ⟨join_and_t (by omega) (by omega), _, rfl⟩ | exact ⟨join_and_f (by omega), _, rfl⟩ | exact ⟨by rw [decide_eq_decide]; omega, _, rfl⟩))); (intro tj9; (try dsimp only); (try rw [hb]))) ))
  unfold idxP at ha
  cases hb : decide (1 ≤ arrIx k ∧ arrIx k ≤ (T.arr.length : Int)) with
  | true =>
    have hb' := of_decide_eq_true hb
    rw [if_pos (show inArr T k from hb')] at ha
    have e9 : (ix : Int) = arrIx k - 1 := by have := Option.some.inj ha; have h1 := hb'.1; omega
    rw [e9] at hret
    k_steps
    all_goals first | exact hret _ _ _ _ (by k_asm) (by first | k_asm | exact News.tl (by k_asm) | exact News.tl (News.tl (by k_asm)) | exact News.tl (News.tl (News.tl (by k_asm)))) ⟨rfl, _, rfl⟩ | skip
  | false =>
    rw [if_neg (show ¬ inArr T k from of_decide_eq_false hb)] at ha
    obtain ⟨r, hr, ha⟩ := Option.bind_eq_some_iff.mp ha
    by_cases hr0 : r < 0
    · rw [if_pos hr0] at ha; cases ha
    rw [if_neg hr0] at ha
    have e9 : (ix : Int) = (T.arr.length : Int) + r := by have := Option.some.inj ha; omega
    rw [e9] at hret
    have hn0 : 0 < T.nodes.length := by
      by_cases h0 : T.nodes.length = 0
      · rw [findP, if_pos h0] at hr; have := Option.some.inj hr; omega
      · omega
    rw [findP, if_neg (by omega)] at hr
    have hM9 := haltAt "KswEnd"
    k_steps
    constructor
    (rename Fr _ _ _ _ => lF); (rename News _ _ _ _ => lN)
    (with_unfolding_all refine' ksw_while (σ := Nat × Int × Tok) (fun _ => _) (fun c => [(Str.ofString "spot", .int c.2.1 c.2.2)]) (fun _ => True) [Str.ofString "found"] (fun c => walkF T.nodes k c.1 c.2.1 = some r) (fun c => c.1) (_, _, _) lF lN trivial ?hk hr ?turn)
    case hk => (intro p hp; simp only [List.mem_cons, List.not_mem_nil, or_false] at hp; rcases hp with rfl; rfl)
    clear lF lN; refine all3 ?_; rintro f at1 tk1 u h tk hf hw F N; dsimp only at hw
    cases f with
    | zero => cases hw
    | succ f =>
      by_cases hneg : at1 < 0
      · rw [walkF, if_pos hneg] at hw
        exact absurd (Option.some.inj hw) (by omega)
      · rw [walkF, if_neg hneg] at hw
        obtain ⟨i, rfl⟩ := Int.eq_ofNat_of_zero_le (by omega : 0 ≤ at1)
        rw [Int.toNat_natCast] at hw
        cases hx : T.nodes[i]? with
        | none => rw [hx] at hw; cases hw
        | some x =>
          obtain ⟨p, hp⟩ := hT.at (lt_of_get hx)
          rw [hx] at hw
          dsimp only at hw
          k_fold
          k_steps
          · have hq : x.key = some k := by first | assumption | exact of_decide_eq_true (by assumption)
            rw [if_pos hq] at hw
            obtain rfl := Option.some.inj hw
            all_goals first | exact hret _ _ _ _ (by k_asm) (by first | k_asm | exact News.tl (by k_asm) | exact News.tl (News.tl (by k_asm)) | exact News.tl (News.tl (News.tl (by k_asm)))) ⟨rfl, _, rfl⟩ | skip
          · have hq : ¬ x.key = some k := by first | assumption | exact of_decide_eq_false (by assumption) | simpa using (by assumption : ¬ (decide (x.key = some k) = true))
            rw [if_neg hq] at hw
            constructor
            refine ksw_end ⟨f, _, _⟩ (by assumption) (by assumption) (by kst_in) (by kst_facts) (by kst_all) ?hr hw (Nat.lt_succ_self f)
            (first | (intro z h2 h3; have h4 := ne_true_of_eq_false h3; simp only [List.forall_mem_cons, List.not_mem_nil, false_implies, implies_true, and_true, ne_eq] at h2; (try simp only [List.contains_cons, List.contains_nil, Bool.or_false, Bool.or_eq_false_iff, beq_eq_false_iff_ne, ne_eq] at h3); (repeat first | with_reducible rfl | (refine Eq.trans (kstB_ne ?zqs) ?_; (case zqs => first | exact h2 | exact h2.1 | exact h2.2 | exact h2.2.1 | exact h2.2.2 | exact h2.2.2.1 | exact h2.2.2.2 | exact h3 | exact h3.1 | exact h3.2 | exact h3.2.1 | exact h3.2.2 | exact h4)) | (refine Eq.trans (kstB_nil _ _) ?_) | (refine Eq.trans (if_neg ?zqs) ?_; (case zqs => first | exact h2 | exact h2.1 | exact h2.2 | exact h2.2.1 | exact h2.2.2 | exact h2.2.2.1 | exact h2.2.2.2 | exact h3 | exact h3.1 | exact h3.2 | exact h3.2.1 | exact h3.2.2 | exact h4))); done) | (intro z h2 h3; simp only [List.forall_mem_cons, List.not_mem_nil, false_implies, implies_true, and_true, ne_eq] at h2; (try simp only [List.contains_cons, List.contains_nil, Bool.or_false, Bool.or_eq_false_iff, beq_eq_false_iff_ne, ne_eq] at h3); simp +zetaDelta [kstB, h2, h3]))


end
section
theorem wd_P25_0 : True := by
  k_with_none
  exact trivial
theorem wd_P25_44 : True := by
  k_with "KD" => first | exact dlt (by assumption) (by first | decide | omega) | exact dlt1 (by assumption) (by first | decide | omega) | exact dlt0 (by assumption) | ktr_room
  k_with "KU" => first | exact ult (by assumption) (by first | decide | omega) | ktr_units
  k_with "ENTER" => (refine' enter_ ?zqk1 ?zqk2 ?zqk3 ?zqk4 ?zqk5 ?zqkA ?zqkF ?zqkK ?zqk6 ?zqk7 ?zqk8 ?zqk9 ?zqkB ?_ ?zqc2 ?zqc3 ?zqc4 ?zqc5; (case zqkA => exact rfl); (case zqkF => exact rfl); (case zqkK => first | exact rfl | assumption); (case zqk1 => k_asm); (case zqk2 => k_asm); (case zqk3 => k_asm); (case zqk4 => k_asm); (case zqk5 => k_asm); (case zqk6 => k_is); (case zqk7 => k_is); (case zqk8 => walk_at "KD"); (case zqk9 => first | exact BindsTo.of_eq rfl | exact binds_K (by k_in) rfl (by k_is) rfl rfl rfl | fail "ENTER: no rule for these arguments"); (case zqc5 => decide); (case zqkB => exact locs rfl); (case zqc2 => exact rfl); (case zqc3 => exact rfl); (case zqc4 => exact rfl); k_whole; intro g' L' h' tk' FG' mm F' N' B' X' T' qk ek)
  k_with "call ref" => (k_here; k_dflt (first | (refine' call_cls0 ?zqk1 ?zqk2 ?zqk3 ?zqk4 ?zqk5 ?_; (case zqk1 => k_asm); (case zqk2 => k_asm); (case zqk3 => k_asm); (case zqk4 => k_is); (case zqk5 => k_is); k_whole; intro x' d' h' F' N' l1 l2; (try k_lt l1); (try k_lt2 l2); (try k_sweep)) | (refine' call_cls ?zqk1 ?zqk2 ?zqk3 ?zqk4 ?zqk5 ?zqk6 ?_; (case zqk1 => k_asm); (case zqk2 => k_asm); (case zqk3 => k_asm); (case zqk4 => k_is); (case zqk5 => k_is); (case zqk6 => k_is); k_whole; intro x' d' h' F' N' l1 l2; (try k_lt l1); (try k_lt2 l2); (try k_sweep); walk_at "ENTER") | (refine' call_meth ?zqk1 ?zqk2 ?_; (case zqk1 => k_asm); (case zqk2 => k_mem); k_whole; walk_at "ENTER") | (refine wpAny_call ?_; walk_at "ENTER")))
  k_with "call builtin:len" => (k_here; (with_reducible show wpAny _ _ (call (Value.builtin "len") [Value.ref _]) _ _ _); k_dflt (refine' kst_len ?zqk1 ?zqk2 ?zqk3 ?zqk4 ?_; (case zqk1 => k_asm); (case zqk2 => k_mem); (case zqk3 => first | assumption | exact rfl); (case zqk4 => omega); k_whole))
  k_with "WhileStep2" => (first | (with_reducible show WhileStep2 _ _ _ _ _ _ (Flow.ret _) _) | (with_reducible show WhileStep2 _ _ _ _ _ _ Flow.brk _)); (dsimp only [WhileStep2])
  k_with "execs cons" => (k_here; refine wpAny_execs_cons (foldQ ?_); intro qs)
  k_with "storeName" => (k_here; (try dsimp only); k_dflt (refine' store_ ?zqF ?zqN ?_ ?zqa ?zqb; (case zqF => k_asm); (case zqN => k_asm); (case zqa => first | exact rfl | assumption); (case zqb => rfl); k_whole; intro h' tk' mm F' N'; (try k_sweep)))
  k_with "exec While Compare cons nil" => refine Halt.go ?_
  k_with "pyIter ref" => refine Halt.go ?_
  k_with "call type:enumerate" => refine Halt.go ?_
  k_with "KswEnd" => refine Halt.at (k := "KswEnd") (by assumption) ?_
  k_with "subscriptTail" => refine Halt.at (k := "subscriptTail") (by assumption) ?_
  k_with "eval ListComp" => refine Halt.at (k := "eval ListComp") (by assumption) ?_
  k_with "CompSrc" => refine Halt.at (k := "CompSrc") (by assumption) ?_
  k_with "CompEnd" => refine Halt.at (k := "CompEnd") (by assumption) ?_
  k_with "call ref" => refine Halt.at (k := "call ref") (by assumption) ?_
  k_with "call builtin:sorted" => refine Halt.at (k := "call builtin:sorted") (by assumption) ?_
  k_with "call builtin:repr" => refine Halt.at (k := "call builtin:repr") (by assumption) ?_
  k_with "unpackItems ref" => refine Halt.at (k := "unpackItems ref") (by assumption) ?_
  k_with "compareOp Eq ref ref" => refine Halt.at (k := "compareOp Eq ref ref") (by assumption) ?_
  k_with "call type:str" => refine Halt.at (k := "call type:str") (by assumption) ?_
  k_with "K4" => ((case zqk1 => k_asm); (case zqk2 => k_asm); (case zqk3 => k_asm); (case zqk4 => k_asm))
  k_with "K56" => ((case zqk5 => first | assumption | (with_unfolding_all assumption)); (case zqk6 => first | assumption | (with_unfolding_all assumption)))
  k_with "KN" => (k_whole; intro h' tj' n' F' N' hT' hK'; (try dsimp only); (try k_sweep))
  k_with "getAttr ref" => (k_here; (with_reducible show wpAny _ _ (getAttr (Value.ref _) (PySem.Str.ofString "free") _) _ _ _); k_dflt (refine' get_free ?zqk1 ?zqk2 ?zqk3 ?zqk4 ?_; walk_at "K4"; k_whole; intro tk' tj'; (try dsimp only)))
  k_with "getAttr ref" => (k_here; (with_reducible show wpAny _ _ (getAttr (Value.ref _) (PySem.Str.ofString "size") _) _ _ _); k_dflt (refine' get_size ?zqk1 ?zqk2 ?zqk3 ?zqk4 ?_; walk_at "K4"; k_whole; intro tk' tj'; (try dsimp only)))
  k_with "getAttr ref" => (k_here; (with_reducible show wpAny _ _ (getAttr (Value.ref _) (PySem.Str.ofString "array") _) _ _ _); k_dflt (refine' get_array ?zqk1 ?zqk2 ?zqk3 ?zqk4 ?_; walk_at "K4"; k_whole; intro tj'; (try dsimp only)))
  k_with "getAttr ref" => (k_here; (with_reducible show wpAny _ _ (getAttr (Value.ref _) (PySem.Str.ofString "nodes") _) _ _ _); k_dflt (refine' get_nodes ?zqk1 ?zqk2 ?zqk3 ?zqk4 ?_; walk_at "K4"; k_whole; intro tj'; (try dsimp only)))
  k_with "getAttr ref" => (k_here; (with_reducible show wpAny _ _ (getAttr (Value.ref _) (PySem.Str.ofString "key") _) _ _ _); k_dflt (first | (refine' get_key_none ?zqk1 ?zqk2 ?zqk3 ?zqk4 ?zqk5 ?zqk6 ?zqk7 ?_; walk_at "K4"; walk_at "K56"; (case zqk7 => assumption); k_whole; intro tj'; (try dsimp only)) | (refine' get_key_some ?zqk1 ?zqk2 ?zqk3 ?zqk4 ?zqk5 ?zqk6 ?zqk7 ?_; walk_at "K4"; walk_at "K56"; (case zqk7 => assumption); k_whole; intro kv' tj' hkv'; (try dsimp only)) | (refine' get_key_any ?zqk1 ?zqk2 ?zqk3 ?zqk4 ?zqk5 ?zqk6 ?_; walk_at "K4"; walk_at "K56"; k_whole; intro kv' tj' hkv'; (try dsimp only))))
  k_with "getAttr ref" => (k_here; (with_reducible show wpAny _ _ (getAttr (Value.ref _) (PySem.Str.ofString "value") _) _ _ _); k_dflt (refine' get_value ?zqk1 ?zqk2 ?zqk3 ?zqk4 ?zqk5 ?zqk6 ?_; walk_at "K4"; walk_at "K56"; k_whole; intro tj'; (try dsimp only)))
  k_with "getAttr ref" => (k_here; (with_reducible show wpAny _ _ (getAttr (Value.ref _) (PySem.Str.ofString "next") _) _ _ _); k_dflt (refine' get_next ?zqk1 ?zqk2 ?zqk3 ?zqk4 ?zqk5 ?zqk6 ?_; walk_at "K4"; walk_at "K56"; k_whole; intro tk' tj'; (try dsimp only)))
  k_with "setAttr ref" => (k_here; (with_reducible show wpAny _ _ (setAttr (Value.ref _) (PySem.Str.ofString "free") _) _ _ _); k_dflt (refine' set_free ?zqk1 ?zqk2 ?zqk3 ?zqk4 ?_; walk_at "K4"; walk_at "KN"))
  k_with "setAttr ref" => (k_here; (with_reducible show wpAny _ _ (setAttr (Value.ref _) (PySem.Str.ofString "size") _) _ _ _); k_dflt (refine' set_size ?zqk1 ?zqk2 ?zqk3 ?zqk4 ?_; walk_at "K4"; walk_at "KN"))
  k_with "setAttr ref" => (k_here; (with_reducible show wpAny _ _ (setAttr (Value.ref _) (PySem.Str.ofString "flags") _) _ _ _); k_dflt (refine' set_flags ?zqk1 ?zqk2 ?zqk3 ?zqk4 ?_; walk_at "K4"; walk_at "KN"))
  k_with "setAttr ref" => (k_here; (with_reducible show wpAny _ _ (setAttr (Value.ref _) (PySem.Str.ofString "log_nodes") _) _ _ _); k_dflt (refine' set_log_nodes ?zqk1 ?zqk2 ?zqk3 ?zqk4 ?_; walk_at "K4"; walk_at "KN"))
  k_with "setAttr ref" => (k_here; (with_reducible show wpAny _ _ (setAttr (Value.ref _) (PySem.Str.ofString "key") _) _ _ _); k_dflt (refine' set_key ?zqk1 ?zqk2 ?zqk3 ?zqk4 ?zqk5 ?zqk6 ?zqk7 ?_; walk_at "K4"; walk_at "K56"; (case zqk7 => first | assumption | exact KV.none); walk_at "KN"))
  k_with "setAttr ref" => (k_here; (with_reducible show wpAny _ _ (setAttr (Value.ref _) (PySem.Str.ofString "value") _) _ _ _); k_dflt (refine' set_value ?zqk1 ?zqk2 ?zqk3 ?zqk4 ?zqk5 ?zqk6 ?zqk7 ?_; walk_at "K4"; walk_at "K56"; (case zqk7 => first | assumption | rfl); walk_at "KN"))
  k_with "setAttr ref" => (k_here; (with_reducible show wpAny _ _ (setAttr (Value.ref _) (PySem.Str.ofString "next") _) _ _ _); k_dflt (refine' set_next ?zqk1 ?zqk2 ?zqk3 ?zqk4 ?zqk5 ?zqk6 ?_; walk_at "K4"; walk_at "K56"; walk_at "KN"))
  k_with "getMethod ref" => (k_here; (with_reducible show wpAny _ _ (getMethod (Value.ref _) _ _) _ _ _); k_dflt (refine' tab_meth ?zqk1 ?zqk2 ?zqk3 ?zqk4 ?zqk5 ?zqk6 ?zqk7 ?zqk8 ?_; walk_at "K4"; (case zqk5 => k_is); (case zqk6 => k_is); (case zqk7 => k_is); (case zqk8 => decide +kernel); k_whole))
  k_with "call builtin:len" => (k_here; (with_reducible show wpAny _ _ (call (Value.builtin "len") [Value.ref _]) _ _ _); k_dflt (first | (refine' len_nodes ?zqk3 ?zqk4 ?_; (case zqk3 => k_asm); (case zqk4 => k_asm); k_whole; intro tk' tj'; (try dsimp only)) | (refine' len_arr ?zqk3 ?zqk4 ?_; (case zqk3 => k_asm); (case zqk4 => k_asm); k_whole; intro tk' tj'; (try dsimp only))))
  k_with "subscriptTail" => (k_here; (with_reducible show wpAny _ _ (subscriptTail _ _ (Value.ref _) (Value.int _ _)) _ _ _); k_dflt (first | (refine' item_node ?zqk3 ?zqk4 ?zqk5 ?zqk6 ?_ ?zqk7; (case zqk3 => k_asm); (case zqk4 => k_asm); (case zqk5 => assumption); (case zqk6 => first | assumption | omega); (case zqk7 => with_unfolding_all rfl); k_whole) | (refine' item_arr ?zqk3 ?zqk4 ?zqk5 ?zqk6 ?_ ?zqk7; (case zqk3 => k_asm); (case zqk4 => k_asm); (case zqk5 => assumption); (case zqk6 => first | assumption | omega); (case zqk7 => with_unfolding_all rfl); k_whole)))
  k_with "setItem ref int" => (k_here; (with_reducible show wpAny _ _ (setItem (Value.ref _) (Value.int _ _) _) _ _ _); k_dflt (refine' set_arr ?zqk1 ?zqk3 ?zqk4 ?zqk5 ?zqk6 ?_; (case zqk1 => k_asm); (case zqk3 => k_asm); (case zqk4 => k_asm); (case zqk5 => omega); (case zqk6 => (try dsimp only); omega); k_whole; intro h' n' F' N' hT' hK'; (try dsimp only); (try k_sweep)))
  k_with "call builtin:list.append" => (k_here; (with_reducible show wpAny _ _ (call (Value.builtin _) [Value.ref _, _]) _ _ _); k_dflt (refine' app_arr ?zqk1 ?zqk3 ?zqk4 ?zqk5 ?_; (case zqk1 => k_asm); (case zqk3 => k_asm); (case zqk4 => k_asm); (case zqk5 => (try dsimp only); omega); k_whole; intro h' n' F' N' hT' hK'; (try dsimp only); (try k_sweep)))
  k_with "compareOp Is" => (k_here; (with_reducible show wpAny _ _ (compareOp CmpOp.Is _ Value.none) _ _ _); k_dflt (refine' kv_isnone ?zqk1 ?_; (case zqk1 => assumption); k_whole))
  k_with "exec For Name Name cons nil" => (k_here; (rename Fr _ _ _ _ => lF'); (with_unfolding_all refine' For_invVF lF' ?zqk1 ?zqk2 ?_; (case zqk1 => exact rfl); (case zqk2 => exact rfl); k_whole))
  k_with "exec For Name Call cons nil" => (k_here; (rename Fr _ _ _ _ => lF'); (with_unfolding_all refine' For_invVF lF' ?zqk1 ?zqk2 ?_; (case zqk1 => exact rfl); (case zqk2 => exact rfl); k_whole))
  k_with "exec For Name Attribute cons nil" => (k_here; (rename Fr _ _ _ _ => lF'); (with_unfolding_all refine' For_invVF lF' ?zqk1 ?zqk2 ?_; (case zqk1 => exact rfl); (case zqk2 => exact rfl); k_whole))
  k_with "TP" => ((first | (with_reducible show Mine.TP _ _ _ _ _ _ (Flow.ret _) _) | (with_reducible show Mine.TP _ _ _ _ _ _ Flow.brk _) | (with_reducible show Mine.TP _ _ _ _ _ _ Flow.next _) | (with_reducible show Mine.TP _ _ _ _ _ _ Flow.cont _)); (dsimp only [Mine.TP]))
  k_with "compareOp Is" => (k_here; (with_reducible show wpAny _ _ (compareOp CmpOp.Is _ Value.none) _ _ _); k_dflt (first | (refine' is_eq ?zqk1 ?_; (case zqk1 => assumption); k_whole) | (refine' is_ne ?zqk1 ?_; (case zqk1 => assumption); k_whole)))
  k_with "compareOp IsNot" => (k_here; (with_reducible show wpAny _ _ (compareOp CmpOp.IsNot _ Value.none) _ _ _); k_dflt (first | (refine' isnot_eq ?zqk1 ?_; (case zqk1 => assumption); k_whole) | (refine' isnot_ne ?zqk1 ?_; (case zqk1 => assumption); k_whole)))
  exact trivial

noncomputable def NextR (res : Option (PKey × Value)) (n0 : Led) (r : Value) (n1 : Led) : Prop := match res with
  | none => r = .none ∧ n1 = n0
  | some (k, v) => ∃ P kv, r = .ref P ∧ KV kv (some k) ∧ n1 = (P, tupObj [kv, v]) :: n0 ∧ ∀ p ∈ n0, p.1 < P
theorem wd_P25_45 : True := by
  k_with "call builtin:len" => (k_here; (with_reducible show wpAny _ _ (call (Value.builtin "len") [Value.ref _]) _ _ _); k_dflt (first | (refine' len_nodes ?zqk1 ?zqk2 ?_; (case zqk1 => k_asm); (case zqk2 => k_asm); k_whole; intro tk' tj'; (try dsimp only)) | (refine' len_arr ?zqk1 ?zqk2 ?_; (case zqk1 => k_asm); (case zqk2 => k_asm); k_whole; intro tk' tj'; (try dsimp only))))
  exact trivial
noncomputable def FixS (w : World) (t : Addr) (Y : Lay) (T : Tab) (kv0 : Value) (st : Nat) : Prop := Spec w 363 [.ref t, kv0] 12 (fun nw => TabIn nw t Y T) (SameI ((st : Int) - 1))
theorem wd_P25_46 : True := by
  k_with "call ref" => (k_here; k_dflt ((refine' Spec.useI (by assumption : FixS _ _ _ _ _ _) ?zqk1 ?zqk2 ?zqk3 ?zqk4 ?zqk5 ?zqkK ?zqkP ?zqkd ?zqku ?_; (case zqk1 => k_asm); (case zqk2 => k_asm); (case zqk3 => k_asm); (case zqk4 => k_asm); (case zqk5 => k_asm); (case zqkK => first | exact rfl | assumption); (case zqkP => assumption); (case zqkd => walk_at "KD"); (case zqku => walk_at "KU"); k_whole; intro t1 h' tk' F' N'); (try dsimp only); (try k_sweep)))
  exact trivial
set_option maxRecDepth 100000 in
set_option maxHeartbeats 8000000 in
theorem next_spec (w : World) (t : Addr) (Y : Lay) (T : Tab) (kv0 : Value) (st : Nat) (hwf : ∀ x ∈ T.nodes, x.val ≠ .none → x.key ≠ none) (S : FixS w t Y T kv0 st) : Spec w 370 [.ref t, kv0] 20 (fun nw => TabIn nw t Y T) (NextR (nextP T st)) := by
  unfold Spec
  k_fill
  intro mean mg mb dp un gd cn cs a ccd cl outer A₀ base h₀ L m news s Q E B F X N TP hk hP hd hu hret
  w_top on
  w_on
  rename TabIn _ _ _ _ => hT
  have hasz := hT.asz
  have hnsz := hT.nsz
  have hM9 := haltAt "KswEnd"
  k_steps
  constructor
  (rename Fr _ _ _ _ => lF); (rename News _ _ _ _ => lN)
  (with_unfolding_all refine' ksw_while (σ := Nat × Int × Tok) (fun _ => _) (fun c => [(Str.ofString "at", .int c.2.1 c.2.2)]) (fun _ => True) [] (fun c => c.2.1 = (c.1 : Int) ∧ nextP T c.1 = nextP T st) (fun c => T.arr.length - c.1) (st, _, _) lF lN trivial ?hk ?hp ?turn)
  case hk => (intro p hp; simp only [List.mem_cons, List.not_mem_nil, or_false] at hp; rcases hp with rfl; rfl)
  case hp => exact ⟨by dsimp only; omega, rfl⟩
  clear lF lN; refine all3 ?_; rintro i z tk1 u h tk hf ⟨hz, hw⟩ F N; dsimp only at hz hw
  subst hz
  by_cases hi : i < T.arr.length
  · obtain ⟨v, hv⟩ : ∃ v, T.arr[i]? = some v := ⟨_, List.getElem?_eq_getElem hi⟩
    rw [nextP_arr hv] at hw
    by_cases hvn : v = .none
    · rw [if_pos hvn] at hw
      (try k_fold)
      k_steps
      constructor
      refine ksw_end ⟨i + 1, _, _⟩ (by assumption) (by assumption) (by kst_in) (by kst_facts) (by kst_all) ?hr ⟨by dsimp only; omega, hw⟩ (by dsimp only; omega)
      (first | (intro z h2 h3; have h4 := ne_true_of_eq_false h3; simp only [List.forall_mem_cons, List.not_mem_nil, false_implies, implies_true, and_true, ne_eq] at h2; (try simp only [List.contains_cons, List.contains_nil, Bool.or_false, Bool.or_eq_false_iff, beq_eq_false_iff_ne, ne_eq] at h3); (repeat first | with_reducible rfl | (refine Eq.trans (kstB_ne ?zqs) ?_; (case zqs => first | exact h2 | exact h2.1 | exact h2.2 | exact h2.2.1 | exact h2.2.2 | exact h2.2.2.1 | exact h2.2.2.2 | exact h3 | exact h3.1 | exact h3.2 | exact h3.2.1 | exact h3.2.2 | exact h4)) | (refine Eq.trans (kstB_nil _ _) ?_) | (refine Eq.trans (if_neg ?zqs) ?_; (case zqs => first | exact h2 | exact h2.1 | exact h2.2 | exact h2.2.1 | exact h2.2.2 | exact h2.2.2.1 | exact h2.2.2.2 | exact h3 | exact h3.1 | exact h3.2 | exact h3.2.1 | exact h3.2.2 | exact h4))); done) | (intro z h2 h3; simp only [List.forall_mem_cons, List.not_mem_nil, false_implies, implies_true, and_true, ne_eq] at h2; (try simp only [List.contains_cons, List.contains_nil, Bool.or_false, Bool.or_eq_false_iff, beq_eq_false_iff_ne, ne_eq] at h3); simp +zetaDelta [kstB, h2, h3]))
    · rw [if_neg hvn] at hw
      rw [← hw] at hret
      (try k_fold)
      k_steps
      exact hret _ _ _ _ (by k_asm) (by k_asm) ⟨_, _, rfl, KV.int _ _, rfl, by assumption⟩
  · (try k_fold)
    k_steps
    constructor
    obtain ⟨j, rfl⟩ : ∃ j, i = T.arr.length + j := ⟨i - T.arr.length, by omega⟩
    clear hi
    (rename Fr _ _ _ _ => lF); (rename News _ _ _ _ => lN)
    (with_unfolding_all refine' ksw_while (σ := Nat × Int × Tok) (fun _ => _) (fun c => [(Str.ofString "spot", .int c.2.1 c.2.2)]) (fun _ => True) [Str.ofString "node"] (fun c => c.2.1 = (c.1 : Int) ∧ nextP T (T.arr.length + c.1) = nextP T st) (fun c => T.nodes.length - c.1) (j, _, _) lF lN trivial ?hk2 ?hp2 ?turn2)
    case hk2 => (intro p hp; simp only [List.mem_cons, List.not_mem_nil, or_false] at hp; rcases hp with rfl; rfl)
    case hp2 => exact ⟨by dsimp only; omega, hw⟩
    clear lF lN hw; refine all3 ?_; rintro i z tk1 u h tk hf ⟨hz, hw⟩ F N; dsimp only at hz hw
    subst hz
    by_cases hi : i < T.nodes.length
    · obtain ⟨x, hx⟩ : ∃ x, T.nodes[i]? = some x := ⟨_, List.getElem?_eq_getElem hi⟩
      obtain ⟨p, hp⟩ := hT.at hi
      rw [nextP_node hx] at hw
      by_cases hxv : x.val = .none
      · have e8 : slotN x = none := by rw [slotN, if_pos hxv]
        rw [e8] at hw
        (try k_fold)
        k_steps
        constructor
        refine ksw_end ⟨i + 1, _, _⟩ (by assumption) (by assumption) (by kst_in) (by kst_facts) (by kst_all) ?hr2 ⟨by dsimp only; omega, hw⟩ (by dsimp only; omega)
        (first | (intro z h2 h3; have h4 := ne_true_of_eq_false h3; simp only [List.forall_mem_cons, List.not_mem_nil, false_implies, implies_true, and_true, ne_eq] at h2; (try simp only [List.contains_cons, List.contains_nil, Bool.or_false, Bool.or_eq_false_iff, beq_eq_false_iff_ne, ne_eq] at h3); (repeat first | with_reducible rfl | (refine Eq.trans (kstB_ne ?zqs) ?_; (case zqs => first | exact h2 | exact h2.1 | exact h2.2 | exact h2.2.1 | exact h2.2.2 | exact h2.2.2.1 | exact h2.2.2.2 | exact h3 | exact h3.1 | exact h3.2 | exact h3.2.1 | exact h3.2.2 | exact h4)) | (refine Eq.trans (kstB_nil _ _) ?_) | (refine Eq.trans (if_neg ?zqs) ?_; (case zqs => first | exact h2 | exact h2.1 | exact h2.2 | exact h2.2.1 | exact h2.2.2 | exact h2.2.2.1 | exact h2.2.2.2 | exact h3 | exact h3.1 | exact h3.2 | exact h3.2.1 | exact h3.2.2 | exact h4))); done) | (intro z h2 h3; simp only [List.forall_mem_cons, List.not_mem_nil, false_implies, implies_true, and_true, ne_eq] at h2; (try simp only [List.contains_cons, List.contains_nil, Bool.or_false, Bool.or_eq_false_iff, beq_eq_false_iff_ne, ne_eq] at h3); simp +zetaDelta [kstB, h2, h3]))
      · obtain ⟨k, hk9⟩ : ∃ k, x.key = some k := Option.ne_none_iff_exists'.mp (hwf x (List.mem_of_getElem? hx) hxv)
        have e8 : slotN x = some (k, x.val) := by rw [slotN, if_neg hxv, hk9]; rfl
        rw [e8] at hw
        dsimp only at hw
        rw [← hw] at hret
        (try k_fold)
        k_steps
        exact hret _ _ _ _ (by k_asm) (by k_asm) ⟨_, _, rfl, by assumption, rfl, by assumption⟩
    · rw [nextP_end (by omega)] at hw
      rw [← hw] at hret
      (try k_fold)
      k_steps
      exact hret _ _ _ _ (by k_asm) (by k_asm) ⟨rfl, rfl⟩

end
section
theorem wd_P26_0 : True := by
  k_with_none
  exact trivial
theorem wd_P26_47 : True := by
  k_with "KD" => first | exact dlt (by assumption) (by first | decide | omega) | exact dlt1 (by assumption) (by first | decide | omega) | exact dlt0 (by assumption) | ktr_room
  k_with "KU" => first | exact ult (by assumption) (by first | decide | omega) | ktr_units
  k_with "ENTER" => (refine' enter_ ?zqk1 ?zqk2 ?zqk3 ?zqk4 ?zqk5 ?zqkA ?zqkF ?zqkK ?zqk6 ?zqk7 ?zqk8 ?zqk9 ?zqkB ?_ ?zqc2 ?zqc3 ?zqc4 ?zqc5; (case zqkA => exact rfl); (case zqkF => exact rfl); (case zqkK => first | exact rfl | assumption); (case zqk1 => k_asm); (case zqk2 => k_asm); (case zqk3 => k_asm); (case zqk4 => k_asm); (case zqk5 => k_asm); (case zqk6 => k_is); (case zqk7 => k_is); (case zqk8 => walk_at "KD"); (case zqk9 => first | exact BindsTo.of_eq rfl | exact binds_K (by k_in) rfl (by k_is) rfl rfl rfl | fail "ENTER: no rule for these arguments"); (case zqc5 => decide); (case zqkB => exact locs rfl); (case zqc2 => exact rfl); (case zqc3 => exact rfl); (case zqc4 => exact rfl); k_whole; intro g' L' h' tk' FG' mm F' N' B' X' T' qk ek)
  k_with "call ref" => (k_here; k_dflt (first | (refine' call_cls0 ?zqk1 ?zqk2 ?zqk3 ?zqk4 ?zqk5 ?_; (case zqk1 => k_asm); (case zqk2 => k_asm); (case zqk3 => k_asm); (case zqk4 => k_is); (case zqk5 => k_is); k_whole; intro x' d' h' F' N' l1 l2; (try k_lt l1); (try k_lt2 l2); (try k_sweep)) | (refine' call_cls ?zqk1 ?zqk2 ?zqk3 ?zqk4 ?zqk5 ?zqk6 ?_; (case zqk1 => k_asm); (case zqk2 => k_asm); (case zqk3 => k_asm); (case zqk4 => k_is); (case zqk5 => k_is); (case zqk6 => k_is); k_whole; intro x' d' h' F' N' l1 l2; (try k_lt l1); (try k_lt2 l2); (try k_sweep); walk_at "ENTER") | (refine' call_meth ?zqk1 ?zqk2 ?_; (case zqk1 => k_asm); (case zqk2 => k_mem); k_whole; walk_at "ENTER") | (refine wpAny_call ?_; walk_at "ENTER")))
  k_with "call builtin:len" => (k_here; (with_reducible show wpAny _ _ (call (Value.builtin "len") [Value.ref _]) _ _ _); k_dflt (refine' kst_len ?zqk1 ?zqk2 ?zqk3 ?zqk4 ?_; (case zqk1 => k_asm); (case zqk2 => k_mem); (case zqk3 => first | assumption | exact rfl); (case zqk4 => omega); k_whole))
  k_with "WhileStep2" => (first | (with_reducible show WhileStep2 _ _ _ _ _ _ (Flow.ret _) _) | (with_reducible show WhileStep2 _ _ _ _ _ _ Flow.brk _)); (dsimp only [WhileStep2])
  k_with "execs cons" => (k_here; refine wpAny_execs_cons (foldQ ?_); intro qs)
  k_with "storeName" => (k_here; (try dsimp only); k_dflt (refine' store_ ?zqF ?zqN ?_ ?zqa ?zqb; (case zqF => k_asm); (case zqN => k_asm); (case zqa => first | exact rfl | assumption); (case zqb => rfl); k_whole; intro h' tk' mm F' N'; (try k_sweep)))
  k_with "exec While Compare cons nil" => refine Halt.go ?_
  k_with "pyIter ref" => refine Halt.go ?_
  k_with "call type:enumerate" => refine Halt.go ?_
  k_with "KswEnd" => refine Halt.at (k := "KswEnd") (by assumption) ?_
  k_with "subscriptTail" => refine Halt.at (k := "subscriptTail") (by assumption) ?_
  k_with "eval ListComp" => refine Halt.at (k := "eval ListComp") (by assumption) ?_
  k_with "CompSrc" => refine Halt.at (k := "CompSrc") (by assumption) ?_
  k_with "CompEnd" => refine Halt.at (k := "CompEnd") (by assumption) ?_
  k_with "call ref" => refine Halt.at (k := "call ref") (by assumption) ?_
  k_with "call builtin:sorted" => refine Halt.at (k := "call builtin:sorted") (by assumption) ?_
  k_with "call builtin:repr" => refine Halt.at (k := "call builtin:repr") (by assumption) ?_
  k_with "unpackItems ref" => refine Halt.at (k := "unpackItems ref") (by assumption) ?_
  k_with "compareOp Eq ref ref" => refine Halt.at (k := "compareOp Eq ref ref") (by assumption) ?_
  k_with "call type:str" => refine Halt.at (k := "call type:str") (by assumption) ?_
  k_with "K4" => ((case zqk1 => k_asm); (case zqk2 => k_asm); (case zqk3 => k_asm); (case zqk4 => k_asm))
  k_with "K56" => ((case zqk5 => first | assumption | (with_unfolding_all assumption)); (case zqk6 => first | assumption | (with_unfolding_all assumption)))
  k_with "KN" => (k_whole; intro h' tj' n' F' N' hT' hK'; (try dsimp only); (try k_sweep))
  k_with "getAttr ref" => (k_here; (with_reducible show wpAny _ _ (getAttr (Value.ref _) (PySem.Str.ofString "free") _) _ _ _); k_dflt (refine' get_free ?zqk1 ?zqk2 ?zqk3 ?zqk4 ?_; walk_at "K4"; k_whole; intro tk' tj'; (try dsimp only)))
  k_with "getAttr ref" => (k_here; (with_reducible show wpAny _ _ (getAttr (Value.ref _) (PySem.Str.ofString "size") _) _ _ _); k_dflt (refine' get_size ?zqk1 ?zqk2 ?zqk3 ?zqk4 ?_; walk_at "K4"; k_whole; intro tk' tj'; (try dsimp only)))
  k_with "getAttr ref" => (k_here; (with_reducible show wpAny _ _ (getAttr (Value.ref _) (PySem.Str.ofString "array") _) _ _ _); k_dflt (refine' get_array ?zqk1 ?zqk2 ?zqk3 ?zqk4 ?_; walk_at "K4"; k_whole; intro tj'; (try dsimp only)))
  k_with "getAttr ref" => (k_here; (with_reducible show wpAny _ _ (getAttr (Value.ref _) (PySem.Str.ofString "nodes") _) _ _ _); k_dflt (refine' get_nodes ?zqk1 ?zqk2 ?zqk3 ?zqk4 ?_; walk_at "K4"; k_whole; intro tj'; (try dsimp only)))
  k_with "getAttr ref" => (k_here; (with_reducible show wpAny _ _ (getAttr (Value.ref _) (PySem.Str.ofString "key") _) _ _ _); k_dflt (first | (refine' get_key_none ?zqk1 ?zqk2 ?zqk3 ?zqk4 ?zqk5 ?zqk6 ?zqk7 ?_; walk_at "K4"; walk_at "K56"; (case zqk7 => assumption); k_whole; intro tj'; (try dsimp only)) | (refine' get_key_some ?zqk1 ?zqk2 ?zqk3 ?zqk4 ?zqk5 ?zqk6 ?zqk7 ?_; walk_at "K4"; walk_at "K56"; (case zqk7 => assumption); k_whole; intro kv' tj' hkv'; (try dsimp only)) | (refine' get_key_any ?zqk1 ?zqk2 ?zqk3 ?zqk4 ?zqk5 ?zqk6 ?_; walk_at "K4"; walk_at "K56"; k_whole; intro kv' tj' hkv'; (try dsimp only))))
  k_with "getAttr ref" => (k_here; (with_reducible show wpAny _ _ (getAttr (Value.ref _) (PySem.Str.ofString "value") _) _ _ _); k_dflt (refine' get_value ?zqk1 ?zqk2 ?zqk3 ?zqk4 ?zqk5 ?zqk6 ?_; walk_at "K4"; walk_at "K56"; k_whole; intro tj'; (try dsimp only)))
  k_with "getAttr ref" => (k_here; (with_reducible show wpAny _ _ (getAttr (Value.ref _) (PySem.Str.ofString "next") _) _ _ _); k_dflt (refine' get_next ?zqk1 ?zqk2 ?zqk3 ?zqk4 ?zqk5 ?zqk6 ?_; walk_at "K4"; walk_at "K56"; k_whole; intro tk' tj'; (try dsimp only)))
  k_with "setAttr ref" => (k_here; (with_reducible show wpAny _ _ (setAttr (Value.ref _) (PySem.Str.ofString "free") _) _ _ _); k_dflt (refine' set_free ?zqk1 ?zqk2 ?zqk3 ?zqk4 ?_; walk_at "K4"; walk_at "KN"))
  k_with "setAttr ref" => (k_here; (with_reducible show wpAny _ _ (setAttr (Value.ref _) (PySem.Str.ofString "size") _) _ _ _); k_dflt (refine' set_size ?zqk1 ?zqk2 ?zqk3 ?zqk4 ?_; walk_at "K4"; walk_at "KN"))
  k_with "setAttr ref" => (k_here; (with_reducible show wpAny _ _ (setAttr (Value.ref _) (PySem.Str.ofString "flags") _) _ _ _); k_dflt (refine' set_flags ?zqk1 ?zqk2 ?zqk3 ?zqk4 ?_; walk_at "K4"; walk_at "KN"))
  k_with "setAttr ref" => (k_here; (with_reducible show wpAny _ _ (setAttr (Value.ref _) (PySem.Str.ofString "log_nodes") _) _ _ _); k_dflt (refine' set_log_nodes ?zqk1 ?zqk2 ?zqk3 ?zqk4 ?_; walk_at "K4"; walk_at "KN"))
  k_with "setAttr ref" => (k_here; (with_reducible show wpAny _ _ (setAttr (Value.ref _) (PySem.Str.ofString "key") _) _ _ _); k_dflt (refine' set_key ?zqk1 ?zqk2 ?zqk3 ?zqk4 ?zqk5 ?zqk6 ?zqk7 ?_; walk_at "K4"; walk_at "K56"; (case zqk7 => first | assumption | exact KV.none); walk_at "KN"))
  k_with "setAttr ref" => (k_here; (with_reducible show wpAny _ _ (setAttr (Value.ref _) (PySem.Str.ofString "value") _) _ _ _); k_dflt (refine' set_value ?zqk1 ?zqk2 ?zqk3 ?zqk4 ?zqk5 ?zqk6 ?zqk7 ?_; walk_at "K4"; walk_at "K56"; (case zqk7 => first | assumption | rfl); walk_at "KN"))
  k_with "setAttr ref" => (k_here; (with_reducible show wpAny _ _ (setAttr (Value.ref _) (PySem.Str.ofString "next") _) _ _ _); k_dflt (refine' set_next ?zqk1 ?zqk2 ?zqk3 ?zqk4 ?zqk5 ?zqk6 ?_; walk_at "K4"; walk_at "K56"; walk_at "KN"))
  k_with "getMethod ref" => (k_here; (with_reducible show wpAny _ _ (getMethod (Value.ref _) _ _) _ _ _); k_dflt (refine' tab_meth ?zqk1 ?zqk2 ?zqk3 ?zqk4 ?zqk5 ?zqk6 ?zqk7 ?zqk8 ?_; walk_at "K4"; (case zqk5 => k_is); (case zqk6 => k_is); (case zqk7 => k_is); (case zqk8 => decide +kernel); k_whole))
  k_with "call builtin:len" => (k_here; (with_reducible show wpAny _ _ (call (Value.builtin "len") [Value.ref _]) _ _ _); k_dflt (first | (refine' len_nodes ?zqk3 ?zqk4 ?_; (case zqk3 => k_asm); (case zqk4 => k_asm); k_whole; intro tk' tj'; (try dsimp only)) | (refine' len_arr ?zqk3 ?zqk4 ?_; (case zqk3 => k_asm); (case zqk4 => k_asm); k_whole; intro tk' tj'; (try dsimp only))))
  k_with "subscriptTail" => (k_here; (with_reducible show wpAny _ _ (subscriptTail _ _ (Value.ref _) (Value.int _ _)) _ _ _); k_dflt (first | (refine' item_node ?zqk3 ?zqk4 ?zqk5 ?zqk6 ?_ ?zqk7; (case zqk3 => k_asm); (case zqk4 => k_asm); (case zqk5 => assumption); (case zqk6 => first | assumption | omega); (case zqk7 => with_unfolding_all rfl); k_whole) | (refine' item_arr ?zqk3 ?zqk4 ?zqk5 ?zqk6 ?_ ?zqk7; (case zqk3 => k_asm); (case zqk4 => k_asm); (case zqk5 => assumption); (case zqk6 => first | assumption | omega); (case zqk7 => with_unfolding_all rfl); k_whole)))
  k_with "setItem ref int" => (k_here; (with_reducible show wpAny _ _ (setItem (Value.ref _) (Value.int _ _) _) _ _ _); k_dflt (refine' set_arr ?zqk1 ?zqk3 ?zqk4 ?zqk5 ?zqk6 ?_; (case zqk1 => k_asm); (case zqk3 => k_asm); (case zqk4 => k_asm); (case zqk5 => omega); (case zqk6 => (try dsimp only); omega); k_whole; intro h' n' F' N' hT' hK'; (try dsimp only); (try k_sweep)))
  k_with "call builtin:list.append" => (k_here; (with_reducible show wpAny _ _ (call (Value.builtin _) [Value.ref _, _]) _ _ _); k_dflt (refine' app_arr ?zqk1 ?zqk3 ?zqk4 ?zqk5 ?_; (case zqk1 => k_asm); (case zqk3 => k_asm); (case zqk4 => k_asm); (case zqk5 => (try dsimp only); omega); k_whole; intro h' n' F' N' hT' hK'; (try dsimp only); (try k_sweep)))
  k_with "compareOp Is" => (k_here; (with_reducible show wpAny _ _ (compareOp CmpOp.Is _ Value.none) _ _ _); k_dflt (refine' kv_isnone ?zqk1 ?_; (case zqk1 => assumption); k_whole))
  k_with "exec For Name Name cons nil" => (k_here; (rename Fr _ _ _ _ => lF'); (with_unfolding_all refine' For_invVF lF' ?zqk1 ?zqk2 ?_; (case zqk1 => exact rfl); (case zqk2 => exact rfl); k_whole))
  k_with "exec For Name Call cons nil" => (k_here; (rename Fr _ _ _ _ => lF'); (with_unfolding_all refine' For_invVF lF' ?zqk1 ?zqk2 ?_; (case zqk1 => exact rfl); (case zqk2 => exact rfl); k_whole))
  k_with "exec For Name Attribute cons nil" => (k_here; (rename Fr _ _ _ _ => lF'); (with_unfolding_all refine' For_invVF lF' ?zqk1 ?zqk2 ?_; (case zqk1 => exact rfl); (case zqk2 => exact rfl); k_whole))
  k_with "TP" => ((first | (with_reducible show Mine.TP _ _ _ _ _ _ (Flow.ret _) _) | (with_reducible show Mine.TP _ _ _ _ _ _ Flow.brk _) | (with_reducible show Mine.TP _ _ _ _ _ _ Flow.next _) | (with_reducible show Mine.TP _ _ _ _ _ _ Flow.cont _)); (dsimp only [Mine.TP]))
  k_with "compareOp Is" => (k_here; (with_reducible show wpAny _ _ (compareOp CmpOp.Is _ Value.none) _ _ _); k_dflt (first | (refine' is_eq ?zqk1 ?_; (case zqk1 => assumption); k_whole) | (refine' is_ne ?zqk1 ?_; (case zqk1 => assumption); k_whole)))
  k_with "compareOp IsNot" => (k_here; (with_reducible show wpAny _ _ (compareOp CmpOp.IsNot _ Value.none) _ _ _); k_dflt (first | (refine' isnot_eq ?zqk1 ?_; (case zqk1 => assumption); k_whole) | (refine' isnot_ne ?zqk1 ?_; (case zqk1 => assumption); k_whole)))
  exact trivial

theorem next_some (w : World) (t : Addr) (Y : Lay) (T : Tab) (kv0 : Value) (st : Nat) (k : PKey) (v : Value) (hwf : ∀ x ∈ T.nodes, x.val ≠ .none → x.key ≠ none) (S : FixS w t Y T kv0 st) (hn : nextP T st = some (k, v)) : Spec w 370 [.ref t, kv0] 20 (fun nw => TabIn nw t Y T)
    (fun n0 r n1 => TabIn n1 t Y T ∧ (∀ p ∈ n0, p ∈ n1) ∧ ∃ P kv, r = .ref P ∧ KV kv (some k) ∧ (P, tupObj [kv, v]) ∈ n1) :=
  (next_spec w t Y T kv0 st hwf S).mono (fun _ h => h) fun h₀ h L n n' r N hP hR => by
    rw [hn] at hR
    obtain ⟨P, kv, rfl, hk, rfl, _⟩ := hR
    exact ⟨hP.mono fun p hp => .tail _ hp, fun p hp => .tail _ hp, P, kv, rfl, hk, .head _⟩
theorem next_none (w : World) (t : Addr) (Y : Lay) (T : Tab) (kv0 : Value) (st : Nat) (hwf : ∀ x ∈ T.nodes, x.val ≠ .none → x.key ≠ none) (S : FixS w t Y T kv0 st) (hn : nextP T st = none) : Spec w 370 [.ref t, kv0] 20 (fun nw => TabIn nw t Y T)
    (SameV .none) :=
  (next_spec w t Y T kv0 st hwf S).mono (fun _ h => h) fun h₀ h L n n' r N hP hR => by
    rw [hn] at hR
    exact ⟨hR.2, hR.1⟩
theorem fix_none (w : World) (t : Addr) (Y : Lay) (T : Tab) : FixS w t Y T .none 0 := findix_none w t Y T
theorem fix_some (w : World) (t : Addr) (Y : Lay) (T : Tab) {kv : Value} {k : PKey} (hkv : KV kv (some k)) (ok : KeyOk k) (ix : Nat) (ha : idxP T k = some ix) : FixS w t Y T kv (ix + 1) := by
  have := findix_spec w t Y T hkv ok ix ha
  unfold FixS
  rw [show ((ix + 1 : Nat) : Int) - 1 = (ix : Int) by omega]
  exact this
inductive PairsAt (nw : Led) : List Addr → List (PKey × Value) → Prop
  | nil : PairsAt nw [] []
  | cons {p : Addr} {ps : List Addr} {k : PKey} {v kv : Value} {es : List (PKey × Value)} : KV kv (some k) → (p, tupObj [kv, v]) ∈ nw → PairsAt nw ps es → PairsAt nw (p :: ps) ((k, v) :: es)
theorem PairsAt.mono {nw nw' : Led} (hs : ∀ p o, (p, tupObj o) ∈ nw → (p, tupObj o) ∈ nw') : ∀ {ps es}, PairsAt nw ps es → PairsAt nw' ps es
  | _, _, .nil => .nil
  | _, _, .cons hk hm r => .cons hk (hs _ _ hm) (r.mono hs)
theorem PairsAt.snoc {nw : Led} {p : Addr} {k : PKey} {v kv : Value} (hk : KV kv (some k)) (hm : (p, tupObj [kv, v]) ∈ nw) : ∀ {ps es}, PairsAt nw ps es → PairsAt nw (ps ++ [p]) (es ++ [(k, v)])
  | _, _, .nil => .cons hk hm .nil
  | _, _, .cons hk' hm' r => .cons hk' hm' (r.snoc hk hm)
noncomputable def PairsIn (nw : Led) (F : Addr) (es : List (PKey × Value)) : Prop := ∃ ps c, (F, listOf (ps.map Value.ref).toArray c) ∈ nw ∧ PairsAt nw ps es
theorem tup_list {vs : List Value} {ws : List Value} {n : Nat} : tupObj vs ≠ listOf ws.toArray n := fun e => by
  have := congrArg Obj.cls e
  simp [tupObj] at this
theorem TabIn.butL {h₀ h : Heap} {L l t : Addr} {nw nw' : Led} {Y : Lay} {T : Tab} {vs : List Value} {c : Nat} (N : News h₀ L h nw) (hT : TabIn nw t Y T) (hm : (l, listOf vs.toArray c) ∈ nw) (hK : KeepBut l nw nw') (h1 : Y.al ≠ l) (h2 : Y.nl ≠ l) : TabIn nw' t Y T := by
  obtain ⟨hi, ⟨o, ho, hd⟩, ⟨ca, ha⟩, ⟨cn, hn⟩, hl, hnode, hdis, haln, g1, g2⟩ := hT
  have ne : ∀ a ob, (a, ob) ∈ nw → ob ≠ listOf vs.toArray c → a ≠ l := fun a ob hm' hne e => hne (News.fn N hm' (by rw [show a = l from e]; exact hm))
  refine ⟨hK _ hi (ne _ _ hi (inst_list _ _)), ⟨o, ho, hK _ hd (ne _ _ hd (by cases ho; exact dict_list _ _))⟩, ⟨ca, hK _ ha h1⟩, ⟨cn, hK _ hn h2⟩, hl, fun i p x hp hx => ?_, hdis, haln, g1, g2⟩
  obtain ⟨hin, hv, kv, o2, k1, k2, k3⟩ := hnode i p x hp hx
  exact ⟨hK _ hin (ne _ _ hin (inst_list _ _)), hv, kv, o2, k1, k2, hK _ k3 (ne _ _ k3 (by cases k2; exact dict_list _ _))⟩
structure Found (nw : Led) (t : Addr) (Y : Lay) (T : Tab) (F : Addr) (ps : List Addr) (es : List (PKey × Value)) : Prop where
  tab : TabIn nw t Y T
  lst : ∃ c, (F, listOf (ps.map Value.ref).toArray c) ∈ nw
  pairs : PairsAt nw ps es
  al : Y.al ≠ F
  nl : Y.nl ≠ F
theorem app_found {w : World} {A : Around} {E : Value → Shared → Prop} {s : Shared} {h₀ : Heap} {L t F p : Addr} {m : Str → Option Value} {news : Led} {Y : Lay} {T : Tab} {Q : Value → Shared → Prop} {ps : List Addr} {es : List (PKey × Value)} {k : PKey} {kv v : Value}
    (Fr' : Fr h₀ L s.heap m) (N : News h₀ L s.heap news) (hF : Found news t Y T F ps es) (hk : KV kv (some k)) (hp : (p, tupObj [kv, v]) ∈ news) (hsz : ps.length ≤ 1000)
    (h : ∀ h' n', Fr h₀ L h' m → News h₀ L h' n' → Found n' t Y T F (ps ++ [p]) (es ++ [(k, v)]) → (p, tupObj [kv, v]) ∈ n' → KeepBut F news n' → Q .none { s with heap := h' }) :
    wpAny (model PySem.Challenge.rw_pq0681_01.row.prog w) A (call (.builtin "list.append") [.ref F, .ref p]) Q E s := by
  obtain ⟨hT, ⟨c, hm⟩, hps, h1, h2⟩ := hF
  have nt : ∀ q o, (q, tupObj o) ∈ news → q ≠ F := fun q o hq e => by
    subst e
    exact tup_list (News.fn N hq hm)
  refine appendP Fr' N hm (by rw [List.length_map, sizeLine_eq]; omega) fun h' F' N' => ?_
  have hK : KeepBut F news (put F (listOf (ps.map Value.ref ++ [Value.ref p]).toArray (c + 1)) news) := fun q hq hn => put_ne hq hn
  have hp' := hK _ hp (nt _ _ hp)
  exact h _ _ F' N' ⟨hT.butL N hm hK h1 h2, ⟨c + 1, by rw [List.map_append]; exact put_self⟩, (hps.mono fun q o hq => hK _ hq (nt _ _ hq)).snoc hk hp', h1, h2⟩ hp' hK
theorem Found.mono {nw nw' : Led} {t F : Addr} {Y : Lay} {T : Tab} {ps : List Addr} {es : List (PKey × Value)} (h : Found nw t Y T F ps es) (hT : TabIn nw' t Y T) (hs : ∀ p ∈ nw, p ∈ nw') : Found nw' t Y T F ps es :=
  ⟨hT, let ⟨c, hm⟩ := h.lst; ⟨c, hs _ hm⟩, h.pairs.mono fun _ _ hm => hs _ hm, h.al, h.nl⟩
theorem wd_P26_48 : True := by
  k_with "call ref" => (k_here; k_dflt ((refine' Spec.useV (next_none _ _ _ _ _ _ (by assumption) (by assumption) (by assumption)) ?zqk1 ?zqk2 ?zqk3 ?zqk4 ?zqk5 ?zqkK ?zqkP ?zqkd ?zqku ?_; (case zqk1 => k_asm); (case zqk2 => k_asm); (case zqk3 => k_asm); (case zqk4 => k_asm); (case zqk5 => k_asm); (case zqkK => first | exact rfl | assumption); (case zqkP => (first | assumption | exact TabIn.mono (by assumption) (fun p hp => .tail _ (.tail _ hp)))); (case zqkd => walk_at "KD"); (case zqku => walk_at "KU"); k_whole; intro h' tk' F' N'); (try dsimp only); (try k_sweep)))
  k_with "call ref" => (k_here; k_dflt ((refine' Spec.useK (next_some _ _ _ _ _ _ _ _ (by assumption) (by assumption) (by assumption)) ?zqk1 ?zqk2 ?zqk3 ?zqk4 ?zqk5 ?zqkK ?zqkP ?zqkd ?zqku ?zqC ?_; (case zqk1 => k_asm); (case zqk2 => k_asm); (case zqk3 => k_asm); (case zqk4 => k_asm); (case zqk5 => k_asm); (case zqkK => first | exact rfl | assumption); (case zqkP => (first | assumption | exact TabIn.mono (by assumption) (fun p hp => .tail _ (.tail _ hp)))); (case zqkd => walk_at "KD"); (case zqku => walk_at "KU"); (case zqC => (intro G c r' n' R'; obtain ⟨hT9, hs9, P9, kv9, e1, hk9, hm9⟩ := R'; subst e1; revert n' hT9 hs9 P9 kv9 hk9 hm9; exact c)); k_whole; intro n' hT9 hs9 P9 kv9 hk9 hm9 h' tk' F' N'); (try dsimp only); (try k_sweep)))
  k_with "getMethod ref" => (k_here; (with_reducible show wpAny _ _ (getMethod (Value.ref _) (PySem.Str.ofString "next") _) _ _ _); k_dflt (refine' tab_meth ?zqk1 ?zqk2 ?zqk3 ?zqk4 ?zqk5 ?zqk6 ?zqk7 ?zqk8 ?_; (case zqk1 => k_asm); (case zqk2 => k_asm); (case zqk3 => k_asm); (case zqk4 => first | assumption | exact TabIn.mono (by assumption) (fun p hp => .tail _ (.tail _ hp))); (case zqk5 => k_is); (case zqk6 => k_is); (case zqk7 => k_is); (case zqk8 => decide +kernel); k_whole))
  k_with "call builtin:list.append" => (k_here; (show wpAny _ _ (call (Value.builtin "list.append") [Value.ref _, Value.ref _]) _ _ _); k_dflt (refine' app_found ?zqk1 ?zqk3 ?zqk4 ?zqk6 ?zqk7 ?zqk5 ?_; (case zqk1 => k_asm); (case zqk3 => k_asm); (case zqk4 => assumption); (case zqk7 => assumption); (case zqk6 => assumption); (case zqk5 => omega); k_whole; intro h' n' F' N' hF' hp' hK'; (have hT' := Found.tab hF'); (try dsimp only); (try k_sweep)))
  exact trivial
inductive Cur (T : Tab) (nw : Led) : Value → List (PKey × Value) → Prop
  | nil : Cur T nw .none []
  | cons {p : Addr} {kv : Value} {k : PKey} {v : Value} {a : Nat} {rest : List (PKey × Value)} : KV kv (some k) → (p, tupObj [kv, v]) ∈ nw → KeyOk k → idxP T k = some a → GoneFrom T (a + 1) rest → Cur T nw (.ref p) ((k, v) :: rest)
set_option maxRecDepth 100000 in
set_option maxHeartbeats 8000000 in
theorem gone_spec (w : World) (t : Addr) (Y : Lay) (T : Tab) (es : List (PKey × Value)) (hwf : ∀ x ∈ T.nodes, x.val ≠ .none → x.key ≠ none) (hg : GoneFrom T 0 es) (hsz : es.length ≤ 1000) : Spec w 445 [.ref t] 30 (fun nw => TabIn nw t Y T)
    (fun n0 r n1 => TabIn n1 t Y T ∧ (∀ p ∈ n0, p ∈ n1) ∧ ∃ F, r = .ref F ∧ PairsIn n1 F es ∧ ∀ q ∈ n0, q.1 < F) := by
  unfold Spec
  k_fill
  intro mean mg mb dp un gd cn cs a ccd cl outer A₀ base h₀ L m news s Q E B F X N TP hk hP hd hu hret
  w_top on
  w_on
  rename TabIn _ _ _ _ => hT
  have hf0 := fix_none w t Y T
  have hM9 := haltAt "KswEnd"
  obtain ⟨es0, hes0⟩ : ∃ es0, es0 = es := ⟨_, rfl⟩
  rw [← hes0] at hret hsz
  cases hg with
  | nil hn =>
    subst hes0
    k_steps
    constructor
    (rename ∀ p ∈ news, p.1 < _ => lN0)
    (rename Fr _ _ _ _ => lF); (rename News _ _ _ _ => lN)
    (with_unfolding_all refine' ksw_while (σ := Unit) (fun _ => _) (fun _ => []) (fun _ => True) [] (fun _ => True) (fun _ => 0) () lF lN trivial ?hk1 trivial ?turn1)
    case hk1 => exact fun _ hp => nomatch hp
    clear lF lN; rintro _ u h tk hf _ F N
    k_fold
    k_steps
    exact hret _ _ _ _ (by k_asm) (by k_asm) ⟨hT.mono fun p hp => .tail _ (.tail _ hp), fun p hp => .tail _ (.tail _ hp), _, rfl, ⟨[], 0, .tail _ (.head _), .nil⟩, lN0⟩
  | @cons _ a1 k1 v1 es1 hn ok hx hg =>
    k_steps
    constructor
    (rename ∀ p ∈ news, p.1 < _ => lN0)
    obtain ⟨F, eF, lF0⟩ : ∃ F, F = _ ∧ ∀ p ∈ news, p.1 < F := ⟨_, rfl, lN0⟩
    subst eF
    (rename TabIn _ _ _ _ => hT9)
    (rename KV _ _ => hk9)
    (rename (_, tupObj _) ∈ _ => hm9)
    (rename ∀ p ∈ _ :: _ :: news, p ∈ _ => hs9)
    have hF0 : Found _ t Y T F [] [] := ⟨hT9, ⟨0, hs9 _ (.tail _ (.head _))⟩, .nil, hT.al_lt lF0, hT.nl_lt lF0⟩
    have hs0 : ∀ p ∈ news, p ∈ _ := fun p hp => hs9 p (.tail _ (.tail _ hp))
    (rename Fr _ _ _ _ => lF); (rename News _ _ _ _ => lN)
    (with_unfolding_all refine' ksw_while (σ := Led × Value × List Addr × List (PKey × Value)) (fun c => c.1) (fun c => [(Str.ofString "pair", c.2.1)]) (fun _ => True) [] (fun c => ∃ done, Found c.1 t Y T F c.2.2.1 done ∧ (∀ p ∈ news, p ∈ c.1) ∧ es0 = done ++ c.2.2.2 ∧ c.2.2.1.length = done.length ∧ Cur T c.1 c.2.1 c.2.2.2) (fun c => c.2.2.2.length) (_, _, [], (k1, v1) :: es1) lF lN trivial ?hk ?hp ?turn)
    case hk => (intro p hp; simp only [List.mem_cons, List.not_mem_nil, or_false] at hp; rcases hp with rfl; rfl)
    case hp => exact ⟨[], hF0, hs0, hes0, rfl, .cons hk9 hm9 ok hx hg⟩
    clear lF lN hT9 hk9 hm9 hs9 hF0 hs0 ok hx hg hn hes0; refine all4 ?_; rintro nw pv ps rest u h tk hf ⟨done, hF, hs, hes, hln, hcur⟩ F N
    dsimp only at hF hs hes hln hcur
    have hT3 := hF.tab
    cases hcur with
    | nil =>
      obtain ⟨cc, hcc⟩ := hF.lst
      rw [List.append_nil] at hes
      (try k_fold)
      k_steps
      exact hret _ _ _ _ (by k_asm) (by k_asm) ⟨hT3, hs, _, rfl, ⟨ps, cc, hcc, by rw [hes]; exact hF.pairs⟩, lF0⟩
    | cons hk9 hm9 ok hx hg =>
      have hfx := fix_some w t Y T hk9 ok _ hx
      have hlen9 := congrArg List.length hes
      simp only [List.length_cons, List.length_append] at hlen9
      have hpl : ps.length ≤ 1000 := by omega
      obtain ⟨cc, hcc⟩ := hF.lst
      cases hg with
      | nil hn =>
        (try k_fold)
        k_steps
        constructor
        (rename Found _ _ _ _ _ (ps ++ _) _ => hF9)
        (rename KeepBut _ _ _ => hK9)
        refine ksw_end (_, _, ps ++ [_], []) (by assumption) (by assumption) (fun p hp => hp) trivial (by kst_all) (by (first | (intro z h2 h3; have h4 := ne_true_of_eq_false h3; simp only [List.forall_mem_cons, List.not_mem_nil, false_implies, implies_true, and_true, ne_eq] at h2; (try simp only [List.contains_cons, List.contains_nil, Bool.or_false, Bool.or_eq_false_iff, beq_eq_false_iff_ne, ne_eq] at h3); (repeat first | with_reducible rfl | (refine Eq.trans (kstB_ne ?zqs) ?_; (case zqs => first | exact h2 | exact h2.1 | exact h2.2 | exact h2.2.1 | exact h2.2.2 | exact h2.2.2.1 | exact h2.2.2.2 | exact h3 | exact h3.1 | exact h3.2 | exact h3.2.1 | exact h3.2.2 | exact h4)) | (refine Eq.trans (kstB_nil _ _) ?_) | (refine Eq.trans (if_neg ?zqs) ?_; (case zqs => first | exact h2 | exact h2.1 | exact h2.2 | exact h2.2.1 | exact h2.2.2 | exact h2.2.2.1 | exact h2.2.2.2 | exact h3 | exact h3.1 | exact h3.2 | exact h3.2.1 | exact h3.2.2 | exact h4))); done) | (intro z h2 h3; simp only [List.forall_mem_cons, List.not_mem_nil, false_implies, implies_true, and_true, ne_eq] at h2; (try simp only [List.contains_cons, List.contains_nil, Bool.or_false, Bool.or_eq_false_iff, beq_eq_false_iff_ne, ne_eq] at h3); simp +zetaDelta [kstB, h2, h3]))) ⟨_, hF9, fun p hp => hK9 p (hs p hp) (Nat.ne_of_lt (lF0 p hp)), by rw [hes, List.append_nil], by rw [List.length_append, List.length_append, hln]; rfl, .nil⟩ (by dsimp only [List.length_cons, List.length_nil]; omega)
      | cons hn ok2 hx2 hg2 =>
        (try k_fold)
        k_steps
        constructor
        (rename Found _ _ _ _ _ (ps ++ _) _ => hF9)
        (rename KeepBut _ _ _ => hK9)
        (rename TabIn _ _ _ _ => hT9)
        (rename ∀ p ∈ _, p ∈ _ => hs9)
        (rename News _ _ _ _ => N9)
        refine ksw_end (_, _, ps ++ [_], _ :: _) (by assumption) N9 (fun p hp => hp) trivial (by kst_all) (by (first | (intro z h2 h3; have h4 := ne_true_of_eq_false h3; simp only [List.forall_mem_cons, List.not_mem_nil, false_implies, implies_true, and_true, ne_eq] at h2; (try simp only [List.contains_cons, List.contains_nil, Bool.or_false, Bool.or_eq_false_iff, beq_eq_false_iff_ne, ne_eq] at h3); (repeat first | with_reducible rfl | (refine Eq.trans (kstB_ne ?zqs) ?_; (case zqs => first | exact h2 | exact h2.1 | exact h2.2 | exact h2.2.1 | exact h2.2.2 | exact h2.2.2.1 | exact h2.2.2.2 | exact h3 | exact h3.1 | exact h3.2 | exact h3.2.1 | exact h3.2.2 | exact h4)) | (refine Eq.trans (kstB_nil _ _) ?_) | (refine Eq.trans (if_neg ?zqs) ?_; (case zqs => first | exact h2 | exact h2.1 | exact h2.2 | exact h2.2.1 | exact h2.2.2 | exact h2.2.2.1 | exact h2.2.2.2 | exact h3 | exact h3.1 | exact h3.2 | exact h3.2.1 | exact h3.2.2 | exact h4))); done) | (intro z h2 h3; simp only [List.forall_mem_cons, List.not_mem_nil, false_implies, implies_true, and_true, ne_eq] at h2; (try simp only [List.contains_cons, List.contains_nil, Bool.or_false, Bool.or_eq_false_iff, beq_eq_false_iff_ne, ne_eq] at h3); simp +zetaDelta [kstB, h2, h3]))) ⟨_, hF9.mono hT9 hs9, fun p hp => hs9 p (hK9 p (hs p hp) (Nat.ne_of_lt (lF0 p hp))), by rw [hes, List.append_assoc]; rfl, by rw [List.length_append, List.length_append, hln]; rfl, .cons (by assumption) (by assumption) ok2 hx2 hg2⟩ (by dsimp only [List.length_cons]; omega)

end
section
theorem wd_P27_0 : True := by
  k_with_none
  exact trivial
theorem wd_P27_49 : True := by
  k_with "KD" => first | exact dlt (by assumption) (by first | decide | omega) | exact dlt1 (by assumption) (by first | decide | omega) | exact dlt0 (by assumption) | ktr_room
  k_with "KU" => first | exact ult (by assumption) (by first | decide | omega) | ktr_units
  k_with "ENTER" => (refine' enter_ ?zqk1 ?zqk2 ?zqk3 ?zqk4 ?zqk5 ?zqkA ?zqkF ?zqkK ?zqk6 ?zqk7 ?zqk8 ?zqk9 ?zqkB ?_ ?zqc2 ?zqc3 ?zqc4 ?zqc5; (case zqkA => exact rfl); (case zqkF => exact rfl); (case zqkK => first | exact rfl | assumption); (case zqk1 => k_asm); (case zqk2 => k_asm); (case zqk3 => k_asm); (case zqk4 => k_asm); (case zqk5 => k_asm); (case zqk6 => k_is); (case zqk7 => k_is); (case zqk8 => walk_at "KD"); (case zqk9 => first | exact BindsTo.of_eq rfl | exact binds_K (by k_in) rfl (by k_is) rfl rfl rfl | fail "ENTER: no rule for these arguments"); (case zqc5 => decide); (case zqkB => exact locs rfl); (case zqc2 => exact rfl); (case zqc3 => exact rfl); (case zqc4 => exact rfl); k_whole; intro g' L' h' tk' FG' mm F' N' B' X' T' qk ek)
  k_with "call ref" => (k_here; k_dflt (first | (refine' call_cls0 ?zqk1 ?zqk2 ?zqk3 ?zqk4 ?zqk5 ?_; (case zqk1 => k_asm); (case zqk2 => k_asm); (case zqk3 => k_asm); (case zqk4 => k_is); (case zqk5 => k_is); k_whole; intro x' d' h' F' N' l1 l2; (try k_lt l1); (try k_lt2 l2); (try k_sweep)) | (refine' call_cls ?zqk1 ?zqk2 ?zqk3 ?zqk4 ?zqk5 ?zqk6 ?_; (case zqk1 => k_asm); (case zqk2 => k_asm); (case zqk3 => k_asm); (case zqk4 => k_is); (case zqk5 => k_is); (case zqk6 => k_is); k_whole; intro x' d' h' F' N' l1 l2; (try k_lt l1); (try k_lt2 l2); (try k_sweep); walk_at "ENTER") | (refine' call_meth ?zqk1 ?zqk2 ?_; (case zqk1 => k_asm); (case zqk2 => k_mem); k_whole; walk_at "ENTER") | (refine wpAny_call ?_; walk_at "ENTER")))
  k_with "call builtin:len" => (k_here; (with_reducible show wpAny _ _ (call (Value.builtin "len") [Value.ref _]) _ _ _); k_dflt (refine' kst_len ?zqk1 ?zqk2 ?zqk3 ?zqk4 ?_; (case zqk1 => k_asm); (case zqk2 => k_mem); (case zqk3 => first | assumption | exact rfl); (case zqk4 => omega); k_whole))
  k_with "WhileStep2" => (first | (with_reducible show WhileStep2 _ _ _ _ _ _ (Flow.ret _) _) | (with_reducible show WhileStep2 _ _ _ _ _ _ Flow.brk _)); (dsimp only [WhileStep2])
  k_with "execs cons" => (k_here; refine wpAny_execs_cons (foldQ ?_); intro qs)
  k_with "storeName" => (k_here; (try dsimp only); k_dflt (refine' store_ ?zqF ?zqN ?_ ?zqa ?zqb; (case zqF => k_asm); (case zqN => k_asm); (case zqa => first | exact rfl | assumption); (case zqb => rfl); k_whole; intro h' tk' mm F' N'; (try k_sweep)))
  k_with "exec While Compare cons nil" => refine Halt.go ?_
  k_with "pyIter ref" => refine Halt.go ?_
  k_with "call type:enumerate" => refine Halt.go ?_
  k_with "KswEnd" => refine Halt.at (k := "KswEnd") (by assumption) ?_
  k_with "subscriptTail" => refine Halt.at (k := "subscriptTail") (by assumption) ?_
  k_with "eval ListComp" => refine Halt.at (k := "eval ListComp") (by assumption) ?_
  k_with "CompSrc" => refine Halt.at (k := "CompSrc") (by assumption) ?_
  k_with "CompEnd" => refine Halt.at (k := "CompEnd") (by assumption) ?_
  k_with "call ref" => refine Halt.at (k := "call ref") (by assumption) ?_
  k_with "call builtin:sorted" => refine Halt.at (k := "call builtin:sorted") (by assumption) ?_
  k_with "call builtin:repr" => refine Halt.at (k := "call builtin:repr") (by assumption) ?_
  k_with "unpackItems ref" => refine Halt.at (k := "unpackItems ref") (by assumption) ?_
  k_with "compareOp Eq ref ref" => refine Halt.at (k := "compareOp Eq ref ref") (by assumption) ?_
  k_with "call type:str" => refine Halt.at (k := "call type:str") (by assumption) ?_
  exact trivial

theorem newtab_led {x d al nl : Addr} {o : Obj} {news : Led} (l1 : ∀ p ∈ news, p.1 < d) (l2 : d < x) (l3 : x < al ∧ d < al ∧ AllLt al news) (l4 : al < nl ∧ x < nl ∧ d < nl ∧ AllLt nl news) (ho : TabDict al nl 56 0 o) :
    ∃ t Y, Value.ref x = .ref t ∧ TabIn ((nl, listOf #[] 0) :: (al, listOf #[] 0) :: (x, instObj 408 d) :: (d, o) :: news) t Y emptyT ∧ (∀ p ∈ news, p ∈ ((nl, listOf #[] 0) :: (al, listOf #[] 0) :: (x, instObj 408 d) :: (d, o) :: news : Led)) ∧ (∀ a ∈ t :: touch Y, ∀ q ∈ news, q.1 < a) := by
  refine ⟨x, ⟨d, al, nl, []⟩, rfl, ⟨.tail _ (.tail _ (.head _)), ⟨o, ho, .tail _ (.tail _ (.tail _ (.head _)))⟩, ⟨0, .tail _ (.head _)⟩, ⟨0, .head _⟩, rfl, fun i p x hp => by simp at hp, List.nodup_cons.mpr ⟨List.not_mem_nil, List.nodup_nil⟩, Nat.ne_of_lt l4.1, by decide, by decide⟩, fun p hp => .tail _ (.tail _ (.tail _ (.tail _ hp))), fun a ha q hq => ?_⟩
  have h1 := l1 q hq
  rcases List.mem_cons.mp ha with rfl | ha
  · exact Nat.lt_trans h1 l2
  · rcases List.mem_cons.mp ha with rfl | ha
    · exact h1
    · rcases List.mem_cons.mp ha with rfl | ha
      · exact Nat.lt_trans h1 l3.2.1
      · cases ha
set_option maxRecDepth 100000 in
set_option maxHeartbeats 8000000 in
theorem newtab_spec (w : World) : Spec w 408 [] 10 (fun _ => True) (fun n0 r n1 => ∃ t Y, r = .ref t ∧ TabIn n1 t Y emptyT ∧ (∀ p ∈ n0, p ∈ n1) ∧ (∀ a ∈ t :: touch Y, ∀ q ∈ n0, q.1 < a)) := by
  unfold Spec
  k_fill
  intro mean mg mb dp un gd cn cs a ccd cl outer A₀ base h₀ L m news s Q E B F X N TP hk hP hd hu hret
  w_top on
  w_on
  k_steps
  exact hret _ _ _ _ (by k_asm) (by k_asm) (newtab_led (by assumption) (by assumption) (by assumption) (by assumption) (TabDict.mk ..))

end
section
/-! the length of a table -/
noncomputable def bsP (arr : List Value) : Nat → Nat → Nat → Nat
  | 0, low, _ => low
  | f + 1, low, last => if last - low ≤ 1 then low else if arr[(low + last) / 2 - 1]? = some .none then bsP arr f low ((low + last) / 2) else bsP arr f ((low + last) / 2) last
noncomputable def lenP (T : Tab) : Option Int :=
  if 0 < T.arr.length ∧ T.arr[T.arr.length - 1]? = some .none then some (bsP T.arr T.arr.length 0 T.arr.length : Int)
  else if T.nodes.length = 0 then some (T.arr.length : Int)
  else if getInt T ((T.arr.length : Int) + 1) = some .none then some (T.arr.length : Int) else none

end
section
theorem wd_P28_0 : True := by
  k_with_none
  exact trivial
theorem wd_P28_50 : True := by
  k_with "KD" => first | exact dlt (by assumption) (by first | decide | omega) | exact dlt1 (by assumption) (by first | decide | omega) | exact dlt0 (by assumption) | ktr_room
  k_with "KU" => first | exact ult (by assumption) (by first | decide | omega) | ktr_units
  k_with "ENTER" => (refine' enter_ ?zqk1 ?zqk2 ?zqk3 ?zqk4 ?zqk5 ?zqkA ?zqkF ?zqkK ?zqk6 ?zqk7 ?zqk8 ?zqk9 ?zqkB ?_ ?zqc2 ?zqc3 ?zqc4 ?zqc5; (case zqkA => exact rfl); (case zqkF => exact rfl); (case zqkK => first | exact rfl | assumption); (case zqk1 => k_asm); (case zqk2 => k_asm); (case zqk3 => k_asm); (case zqk4 => k_asm); (case zqk5 => k_asm); (case zqk6 => k_is); (case zqk7 => k_is); (case zqk8 => walk_at "KD"); (case zqk9 => first | exact BindsTo.of_eq rfl | exact binds_K (by k_in) rfl (by k_is) rfl rfl rfl | fail "ENTER: no rule for these arguments"); (case zqc5 => decide); (case zqkB => exact locs rfl); (case zqc2 => exact rfl); (case zqc3 => exact rfl); (case zqc4 => exact rfl); k_whole; intro g' L' h' tk' FG' mm F' N' B' X' T' qk ek)
  k_with "call ref" => (k_here; k_dflt (first | (refine' call_cls0 ?zqk1 ?zqk2 ?zqk3 ?zqk4 ?zqk5 ?_; (case zqk1 => k_asm); (case zqk2 => k_asm); (case zqk3 => k_asm); (case zqk4 => k_is); (case zqk5 => k_is); k_whole; intro x' d' h' F' N' l1 l2; (try k_lt l1); (try k_lt2 l2); (try k_sweep)) | (refine' call_cls ?zqk1 ?zqk2 ?zqk3 ?zqk4 ?zqk5 ?zqk6 ?_; (case zqk1 => k_asm); (case zqk2 => k_asm); (case zqk3 => k_asm); (case zqk4 => k_is); (case zqk5 => k_is); (case zqk6 => k_is); k_whole; intro x' d' h' F' N' l1 l2; (try k_lt l1); (try k_lt2 l2); (try k_sweep); walk_at "ENTER") | (refine' call_meth ?zqk1 ?zqk2 ?_; (case zqk1 => k_asm); (case zqk2 => k_mem); k_whole; walk_at "ENTER") | (refine wpAny_call ?_; walk_at "ENTER")))
  k_with "call builtin:len" => (k_here; (with_reducible show wpAny _ _ (call (Value.builtin "len") [Value.ref _]) _ _ _); k_dflt (refine' kst_len ?zqk1 ?zqk2 ?zqk3 ?zqk4 ?_; (case zqk1 => k_asm); (case zqk2 => k_mem); (case zqk3 => first | assumption | exact rfl); (case zqk4 => omega); k_whole))
  k_with "WhileStep2" => (first | (with_reducible show WhileStep2 _ _ _ _ _ _ (Flow.ret _) _) | (with_reducible show WhileStep2 _ _ _ _ _ _ Flow.brk _)); (dsimp only [WhileStep2])
  k_with "execs cons" => (k_here; refine wpAny_execs_cons (foldQ ?_); intro qs)
  k_with "storeName" => (k_here; (try dsimp only); k_dflt (refine' store_ ?zqF ?zqN ?_ ?zqa ?zqb; (case zqF => k_asm); (case zqN => k_asm); (case zqa => first | exact rfl | assumption); (case zqb => rfl); k_whole; intro h' tk' mm F' N'; (try k_sweep)))
  k_with "exec While Compare cons nil" => refine Halt.go ?_
  k_with "pyIter ref" => refine Halt.go ?_
  k_with "call type:enumerate" => refine Halt.go ?_
  k_with "KswEnd" => refine Halt.at (k := "KswEnd") (by assumption) ?_
  k_with "subscriptTail" => refine Halt.at (k := "subscriptTail") (by assumption) ?_
  k_with "eval ListComp" => refine Halt.at (k := "eval ListComp") (by assumption) ?_
  k_with "CompSrc" => refine Halt.at (k := "CompSrc") (by assumption) ?_
  k_with "CompEnd" => refine Halt.at (k := "CompEnd") (by assumption) ?_
  k_with "call ref" => refine Halt.at (k := "call ref") (by assumption) ?_
  k_with "call builtin:sorted" => refine Halt.at (k := "call builtin:sorted") (by assumption) ?_
  k_with "call builtin:repr" => refine Halt.at (k := "call builtin:repr") (by assumption) ?_
  k_with "unpackItems ref" => refine Halt.at (k := "unpackItems ref") (by assumption) ?_
  k_with "compareOp Eq ref ref" => refine Halt.at (k := "compareOp Eq ref ref") (by assumption) ?_
  k_with "call type:str" => refine Halt.at (k := "call type:str") (by assumption) ?_
  k_with "K4" => ((case zqk1 => k_asm); (case zqk2 => k_asm); (case zqk3 => k_asm); (case zqk4 => k_asm))
  k_with "K56" => ((case zqk5 => first | assumption | (with_unfolding_all assumption)); (case zqk6 => first | assumption | (with_unfolding_all assumption)))
  k_with "KN" => (k_whole; intro h' tj' n' F' N' hT' hK'; (try dsimp only); (try k_sweep))
  k_with "getAttr ref" => (k_here; (with_reducible show wpAny _ _ (getAttr (Value.ref _) (PySem.Str.ofString "free") _) _ _ _); k_dflt (refine' get_free ?zqk1 ?zqk2 ?zqk3 ?zqk4 ?_; walk_at "K4"; k_whole; intro tk' tj'; (try dsimp only)))
  k_with "getAttr ref" => (k_here; (with_reducible show wpAny _ _ (getAttr (Value.ref _) (PySem.Str.ofString "size") _) _ _ _); k_dflt (refine' get_size ?zqk1 ?zqk2 ?zqk3 ?zqk4 ?_; walk_at "K4"; k_whole; intro tk' tj'; (try dsimp only)))
  k_with "getAttr ref" => (k_here; (with_reducible show wpAny _ _ (getAttr (Value.ref _) (PySem.Str.ofString "array") _) _ _ _); k_dflt (refine' get_array ?zqk1 ?zqk2 ?zqk3 ?zqk4 ?_; walk_at "K4"; k_whole; intro tj'; (try dsimp only)))
  k_with "getAttr ref" => (k_here; (with_reducible show wpAny _ _ (getAttr (Value.ref _) (PySem.Str.ofString "nodes") _) _ _ _); k_dflt (refine' get_nodes ?zqk1 ?zqk2 ?zqk3 ?zqk4 ?_; walk_at "K4"; k_whole; intro tj'; (try dsimp only)))
  k_with "getAttr ref" => (k_here; (with_reducible show wpAny _ _ (getAttr (Value.ref _) (PySem.Str.ofString "key") _) _ _ _); k_dflt (first | (refine' get_key_none ?zqk1 ?zqk2 ?zqk3 ?zqk4 ?zqk5 ?zqk6 ?zqk7 ?_; walk_at "K4"; walk_at "K56"; (case zqk7 => assumption); k_whole; intro tj'; (try dsimp only)) | (refine' get_key_some ?zqk1 ?zqk2 ?zqk3 ?zqk4 ?zqk5 ?zqk6 ?zqk7 ?_; walk_at "K4"; walk_at "K56"; (case zqk7 => assumption); k_whole; intro kv' tj' hkv'; (try dsimp only)) | (refine' get_key_any ?zqk1 ?zqk2 ?zqk3 ?zqk4 ?zqk5 ?zqk6 ?_; walk_at "K4"; walk_at "K56"; k_whole; intro kv' tj' hkv'; (try dsimp only))))
  k_with "getAttr ref" => (k_here; (with_reducible show wpAny _ _ (getAttr (Value.ref _) (PySem.Str.ofString "value") _) _ _ _); k_dflt (refine' get_value ?zqk1 ?zqk2 ?zqk3 ?zqk4 ?zqk5 ?zqk6 ?_; walk_at "K4"; walk_at "K56"; k_whole; intro tj'; (try dsimp only)))
  k_with "getAttr ref" => (k_here; (with_reducible show wpAny _ _ (getAttr (Value.ref _) (PySem.Str.ofString "next") _) _ _ _); k_dflt (refine' get_next ?zqk1 ?zqk2 ?zqk3 ?zqk4 ?zqk5 ?zqk6 ?_; walk_at "K4"; walk_at "K56"; k_whole; intro tk' tj'; (try dsimp only)))
  k_with "setAttr ref" => (k_here; (with_reducible show wpAny _ _ (setAttr (Value.ref _) (PySem.Str.ofString "free") _) _ _ _); k_dflt (refine' set_free ?zqk1 ?zqk2 ?zqk3 ?zqk4 ?_; walk_at "K4"; walk_at "KN"))
  k_with "setAttr ref" => (k_here; (with_reducible show wpAny _ _ (setAttr (Value.ref _) (PySem.Str.ofString "size") _) _ _ _); k_dflt (refine' set_size ?zqk1 ?zqk2 ?zqk3 ?zqk4 ?_; walk_at "K4"; walk_at "KN"))
  k_with "setAttr ref" => (k_here; (with_reducible show wpAny _ _ (setAttr (Value.ref _) (PySem.Str.ofString "flags") _) _ _ _); k_dflt (refine' set_flags ?zqk1 ?zqk2 ?zqk3 ?zqk4 ?_; walk_at "K4"; walk_at "KN"))
  k_with "setAttr ref" => (k_here; (with_reducible show wpAny _ _ (setAttr (Value.ref _) (PySem.Str.ofString "log_nodes") _) _ _ _); k_dflt (refine' set_log_nodes ?zqk1 ?zqk2 ?zqk3 ?zqk4 ?_; walk_at "K4"; walk_at "KN"))
  k_with "setAttr ref" => (k_here; (with_reducible show wpAny _ _ (setAttr (Value.ref _) (PySem.Str.ofString "key") _) _ _ _); k_dflt (refine' set_key ?zqk1 ?zqk2 ?zqk3 ?zqk4 ?zqk5 ?zqk6 ?zqk7 ?_; walk_at "K4"; walk_at "K56"; (case zqk7 => first | assumption | exact KV.none); walk_at "KN"))
  k_with "setAttr ref" => (k_here; (with_reducible show wpAny _ _ (setAttr (Value.ref _) (PySem.Str.ofString "value") _) _ _ _); k_dflt (refine' set_value ?zqk1 ?zqk2 ?zqk3 ?zqk4 ?zqk5 ?zqk6 ?zqk7 ?_; walk_at "K4"; walk_at "K56"; (case zqk7 => first | assumption | rfl); walk_at "KN"))
  k_with "setAttr ref" => (k_here; (with_reducible show wpAny _ _ (setAttr (Value.ref _) (PySem.Str.ofString "next") _) _ _ _); k_dflt (refine' set_next ?zqk1 ?zqk2 ?zqk3 ?zqk4 ?zqk5 ?zqk6 ?_; walk_at "K4"; walk_at "K56"; walk_at "KN"))
  k_with "getMethod ref" => (k_here; (with_reducible show wpAny _ _ (getMethod (Value.ref _) _ _) _ _ _); k_dflt (refine' tab_meth ?zqk1 ?zqk2 ?zqk3 ?zqk4 ?zqk5 ?zqk6 ?zqk7 ?zqk8 ?_; walk_at "K4"; (case zqk5 => k_is); (case zqk6 => k_is); (case zqk7 => k_is); (case zqk8 => decide +kernel); k_whole))
  k_with "call builtin:len" => (k_here; (with_reducible show wpAny _ _ (call (Value.builtin "len") [Value.ref _]) _ _ _); k_dflt (first | (refine' len_nodes ?zqk3 ?zqk4 ?_; (case zqk3 => k_asm); (case zqk4 => k_asm); k_whole; intro tk' tj'; (try dsimp only)) | (refine' len_arr ?zqk3 ?zqk4 ?_; (case zqk3 => k_asm); (case zqk4 => k_asm); k_whole; intro tk' tj'; (try dsimp only))))
  k_with "subscriptTail" => (k_here; (with_reducible show wpAny _ _ (subscriptTail _ _ (Value.ref _) (Value.int _ _)) _ _ _); k_dflt (first | (refine' item_node ?zqk3 ?zqk4 ?zqk5 ?zqk6 ?_ ?zqk7; (case zqk3 => k_asm); (case zqk4 => k_asm); (case zqk5 => assumption); (case zqk6 => first | assumption | omega); (case zqk7 => with_unfolding_all rfl); k_whole) | (refine' item_arr ?zqk3 ?zqk4 ?zqk5 ?zqk6 ?_ ?zqk7; (case zqk3 => k_asm); (case zqk4 => k_asm); (case zqk5 => assumption); (case zqk6 => first | assumption | omega); (case zqk7 => with_unfolding_all rfl); k_whole)))
  k_with "setItem ref int" => (k_here; (with_reducible show wpAny _ _ (setItem (Value.ref _) (Value.int _ _) _) _ _ _); k_dflt (refine' set_arr ?zqk1 ?zqk3 ?zqk4 ?zqk5 ?zqk6 ?_; (case zqk1 => k_asm); (case zqk3 => k_asm); (case zqk4 => k_asm); (case zqk5 => omega); (case zqk6 => (try dsimp only); omega); k_whole; intro h' n' F' N' hT' hK'; (try dsimp only); (try k_sweep)))
  k_with "call builtin:list.append" => (k_here; (with_reducible show wpAny _ _ (call (Value.builtin _) [Value.ref _, _]) _ _ _); k_dflt (refine' app_arr ?zqk1 ?zqk3 ?zqk4 ?zqk5 ?_; (case zqk1 => k_asm); (case zqk3 => k_asm); (case zqk4 => k_asm); (case zqk5 => (try dsimp only); omega); k_whole; intro h' n' F' N' hT' hK'; (try dsimp only); (try k_sweep)))
  k_with "compareOp Is" => (k_here; (with_reducible show wpAny _ _ (compareOp CmpOp.Is _ Value.none) _ _ _); k_dflt (refine' kv_isnone ?zqk1 ?_; (case zqk1 => assumption); k_whole))
  k_with "exec For Name Name cons nil" => (k_here; (rename Fr _ _ _ _ => lF'); (with_unfolding_all refine' For_invVF lF' ?zqk1 ?zqk2 ?_; (case zqk1 => exact rfl); (case zqk2 => exact rfl); k_whole))
  k_with "exec For Name Call cons nil" => (k_here; (rename Fr _ _ _ _ => lF'); (with_unfolding_all refine' For_invVF lF' ?zqk1 ?zqk2 ?_; (case zqk1 => exact rfl); (case zqk2 => exact rfl); k_whole))
  k_with "exec For Name Attribute cons nil" => (k_here; (rename Fr _ _ _ _ => lF'); (with_unfolding_all refine' For_invVF lF' ?zqk1 ?zqk2 ?_; (case zqk1 => exact rfl); (case zqk2 => exact rfl); k_whole))
  k_with "TP" => ((first | (with_reducible show Mine.TP _ _ _ _ _ _ (Flow.ret _) _) | (with_reducible show Mine.TP _ _ _ _ _ _ Flow.brk _) | (with_reducible show Mine.TP _ _ _ _ _ _ Flow.next _) | (with_reducible show Mine.TP _ _ _ _ _ _ Flow.cont _)); (dsimp only [Mine.TP]))
  k_with "compareOp Is" => (k_here; (with_reducible show wpAny _ _ (compareOp CmpOp.Is _ Value.none) _ _ _); k_dflt (first | (refine' is_eq ?zqk1 ?_; (case zqk1 => assumption); k_whole) | (refine' is_ne ?zqk1 ?_; (case zqk1 => assumption); k_whole)))
  k_with "compareOp IsNot" => (k_here; (with_reducible show wpAny _ _ (compareOp CmpOp.IsNot _ Value.none) _ _ _); k_dflt (first | (refine' isnot_eq ?zqk1 ?_; (case zqk1 => assumption); k_whole) | (refine' isnot_ne ?zqk1 ?_; (case zqk1 => assumption); k_whole)))
  k_with "call builtin:len" => (k_here; (with_reducible show wpAny _ _ (call (Value.builtin "len") [Value.ref _]) _ _ _); k_dflt (first | (refine' len_nodes ?zqk1 ?zqk2 ?_; (case zqk1 => k_asm); (case zqk2 => k_asm); k_whole; intro tk' tj'; (try dsimp only)) | (refine' len_arr ?zqk1 ?zqk2 ?_; (case zqk1 => k_asm); (case zqk2 => k_asm); k_whole; intro tk' tj'; (try dsimp only))))
  k_with "subscriptTail" => (k_here; (with_reducible show wpAny _ _ (subscriptTail _ _ (Value.ref _) (Value.int _ _)) _ _ _); k_dflt ((refine' item_arr ?zqk3 ?zqk4 ?zqk5 ?zqk6 ?_ ?zqk7; (case zqk3 => k_asm); (case zqk4 => k_asm); (case zqk5 => assumption); (case zqk6 => omega); (case zqk7 => with_unfolding_all rfl); k_whole)))
  k_with "call ref" => (k_here; k_dflt ((refine' Spec.useV (getint_spec _ _ _ _ _ _ _ (by assumption)) ?zqk1 ?zqk2 ?zqk3 ?zqk4 ?zqk5 ?zqkK ?zqkP ?zqkd ?zqku ?_; (case zqk1 => k_asm); (case zqk2 => k_asm); (case zqk3 => k_asm); (case zqk4 => k_asm); (case zqk5 => k_asm); (case zqkK => first | exact rfl | assumption); (case zqkP => assumption); (case zqkd => walk_at "KD"); (case zqku => walk_at "KU"); k_whole; intro h' tk' F' N'); (try dsimp only); (try k_sweep)))
  k_with "call ref" => (k_here; k_dflt ((refine' Spec.useB (isnum_int _ _ _) ?zqk1 ?zqk2 ?zqk3 ?zqk4 ?zqk5 ?zqkK ?zqkP ?zqkd ?zqku ?_; (case zqk1 => k_asm); (case zqk2 => k_asm); (case zqk3 => k_asm); (case zqk4 => k_asm); (case zqk5 => k_asm); (case zqkK => first | exact rfl | assumption); (case zqkP => trivial); (case zqkd => walk_at "KD"); (case zqku => walk_at "KU"); k_whole; intro h' tk' F' N'); (try dsimp only); (try k_sweep)))
  exact trivial
set_option maxRecDepth 100000 in
set_option maxHeartbeats 8000000 in
theorem get_spec (w : World) (t : Addr) (Y : Lay) (T : Tab) (n : Int) (tk : Tok) (v : Value) (hv : getInt T n = some v) : Spec w 259 [.ref t, .int n tk] 16 (fun nw => TabIn nw t Y T) (SameV v) := by
  unfold Spec
  k_fill
  intro mean mg mb dp un gd cn cs a ccd cl outer A₀ base h₀ L m news s Q E B F X N TP hk hP hd hu hret
  w_top on
  w_on
  rename TabIn _ _ _ _ => hT
  k_steps
  exact hret _ _ _ _ (by k_asm) (by k_asm) ⟨rfl, rfl⟩
set_option maxRecDepth 100000 in
set_option maxHeartbeats 8000000 in
theorem unb_spec (w : World) (t : Addr) (Y : Lay) (T : Tab) (n : Int) (tk : Tok) (hv : getInt T (n + 1) = some .none) : Spec w 384 [.ref t, .int n tk] 16 (fun nw => TabIn nw t Y T) (SameI n) := by
  unfold Spec
  k_fill
  intro mean mg mb dp un gd cn cs a ccd cl outer A₀ base h₀ L m news s Q E B F X N TP hk hP hd hu hret
  w_top on
  w_on
  rename TabIn _ _ _ _ => hT
  have hM9 := haltAt "KswEnd"
  k_steps
  constructor
  (rename Fr _ _ _ _ => lF); (rename News _ _ _ _ => lN)
  (with_unfolding_all refine' ksw_while (σ := Unit) (fun _ => _) (fun _ => []) (fun _ => True) [] (fun _ => True) (fun _ => 0) () lF lN trivial ?hk trivial ?turn)
  case hk => exact fun _ hp => nomatch hp
  clear lF lN; rintro _ u h tk hf _ F N
  k_fold
  k_steps
  constructor
  (rename Fr _ _ _ _ => lF)
  (with_unfolding_all refine' ksw_while (σ := Unit) (fun _ => _) (fun _ => []) (fun _ => True) [] (fun _ => True) (fun _ => 0) () lF ?kN2 trivial ?hk2 trivial ?turn2)
  case kN2 => k_asm
  case hk2 => exact fun _ hp => nomatch hp
  clear lF; rintro _ u h tk hf _ F N
  k_fold
  k_steps
  all_goals first | (exfalso; omega) | skip
  all_goals first | exact hret _ _ _ _ (by k_asm) (by first | k_asm | exact News.tl (by k_asm) | exact News.tl (News.tl (by k_asm)) | exact News.tl (News.tl (News.tl (by k_asm)))) ⟨rfl, _, rfl⟩ | skip
theorem wd_P28_51 : True := by
  k_with "call ref" => (k_here; k_dflt ((refine' Spec.useI (unb_spec _ _ _ _ _ _ (by assumption)) ?zqk1 ?zqk2 ?zqk3 ?zqk4 ?zqk5 ?zqkK ?zqkP ?zqkd ?zqku ?_; (case zqk1 => k_asm); (case zqk2 => k_asm); (case zqk3 => k_asm); (case zqk4 => k_asm); (case zqk5 => k_asm); (case zqkK => first | exact rfl | assumption); (case zqkP => assumption); (case zqkd => walk_at "KD"); (case zqku => walk_at "KU"); k_whole; intro t1 h' tk' F' N'); (try dsimp only); (try k_sweep)))
  exact trivial
theorem last_none {v : Value} : (some v = some Value.none) ↔ v = .none := ⟨Option.some.inj, fun e => congrArg some e⟩
theorem mid_lt {low last : Nat} (h : ¬ last - low ≤ 1) : low < (low + last) / 2 ∧ (low + last) / 2 < last := by omega
theorem mid_f1 {low md last f : Nat} (h : last - low ≤ f + 1) (h2 : md < last) : md - low ≤ f := by omega
theorem mid_f2 {low md last f : Nat} (h : last - low ≤ f + 1) (h1 : low < md) : last - md ≤ f := by omega
theorem mid_div (low last : Nat) : ((low : Int) + (last : Int)).fdiv 2 = (((low + last) / 2 : Nat) : Int) := by
  rw [Int.fdiv_eq_ediv_of_nonneg _ (by decide), ← Int.natCast_add]; exact (Int.natCast_ediv (low + last) 2).symm
theorem mid_ix {md low : Nat} {x : Int} (h : low < md) (e : x = (md : Int)) : x - 1 = ((md - 1 : Nat) : Int) := by omega
set_option maxRecDepth 100000 in
set_option maxHeartbeats 8000000 in
theorem len1_spec (w : World) (t : Addr) (Y : Lay) (T : Tab) (h0 : 0 < T.arr.length) (hl : T.arr[T.arr.length - 1]? = some .none) : Spec w 377 [.ref t] 20 (fun nw => TabIn nw t Y T) (SameI (bsP T.arr T.arr.length 0 T.arr.length : Int)) := by
  unfold Spec
  k_fill
  intro mean mg mb dp un gd cn cs a ccd cl outer A₀ base h₀ L m news s Q E B F X N TP hk hP hd hu hret
  w_top on
  w_on
  rename TabIn _ _ _ _ => hT
  have hasz := hT.asz
  have hvn : Value.none = Value.none := rfl
  have hM9 := haltAt "KswEnd"
  k_steps
  constructor
  (rename Fr _ _ _ _ => lF); (rename News _ _ _ _ => lN)
  (with_unfolding_all refine' ksw_while (σ := (Nat × Nat × Nat) × (Tok × Tok)) (fun _ => _) (fun c => [(Str.ofString "low", .int (c.1.2.1 : Int) c.2.1), (Str.ofString "last", .int (c.1.2.2 : Int) c.2.2)]) (fun _ => True) [Str.ofString "middle"] (fun c => c.1.2.2 ≤ T.arr.length ∧ c.1.2.1 ≤ c.1.2.2 ∧ c.1.2.2 - c.1.2.1 ≤ c.1.1 ∧ bsP T.arr c.1.1 c.1.2.1 c.1.2.2 = bsP T.arr T.arr.length 0 T.arr.length) (fun c => c.1.1) ((T.arr.length, 0, T.arr.length), (_, _)) lF lN trivial ?hk ?hp ?turn)
  case hk => (intro p hp; simp only [List.mem_cons, List.not_mem_nil, or_false] at hp; rcases hp with rfl | rfl <;> rfl)
  case hp => exact ⟨Nat.le_refl _, by dsimp only; omega, by dsimp only; omega, rfl⟩
  clear lF lN; refine all32 ?_; rintro f low last t1 t2 u h tk hf ⟨hp1, hp2, hp3, hp4⟩ F N
  dsimp only at hp1 hp2 hp3 hp4
  by_cases hgo : last - low ≤ 1
  · have e9 : low = bsP T.arr T.arr.length 0 T.arr.length := by
      rw [← hp4]
      cases f with
      | zero => rfl
      | succ f => rw [bsP, if_pos hgo]
    rw [← e9] at hret
    (try k_fold)
    k_steps
    all_goals first | exact hret _ _ _ _ (by k_asm) (by first | k_asm | exact News.tl (by k_asm) | exact News.tl (News.tl (by k_asm)) | exact News.tl (News.tl (News.tl (by k_asm)))) ⟨rfl, _, rfl⟩ | skip
  · cases f with
    | zero => omega
    | succ f =>
      rw [bsP, if_neg hgo] at hp4
      have hdiv := mid_div low last
      obtain ⟨hm1, hm2⟩ := mid_lt hgo
      generalize (low + last) / 2 = md at hp4 hdiv hm1 hm2
      have hmid : md - 1 < T.arr.length := Nat.lt_of_le_of_lt (Nat.sub_le _ _) (Nat.lt_of_lt_of_le hm2 hp1)
      have hix := mid_ix hm1 hdiv
      obtain ⟨v, hv⟩ : ∃ v, T.arr[md - 1]? = some v := ⟨_, List.getElem?_eq_getElem hmid⟩
      by_cases hvn : v = .none
      · rw [hv, if_pos (by rw [hvn])] at hp4
        (try k_fold)
        k_steps
        constructor
        refine ksw_end ⟨(f, low, md), (_, _)⟩ (by assumption) (by assumption) (by kst_in) (by kst_facts) (by first | kst_all | (simp only [← hdiv]; kst_all)) ?hr ⟨Nat.le_trans (Nat.le_of_lt hm2) hp1, Nat.le_of_lt hm1, mid_f1 hp3 hm2, hp4⟩ (Nat.lt_succ_self f)
        (first | (intro z h2 h3; have h4 := ne_true_of_eq_false h3; simp only [List.forall_mem_cons, List.not_mem_nil, false_implies, implies_true, and_true, ne_eq] at h2; (try simp only [List.contains_cons, List.contains_nil, Bool.or_false, Bool.or_eq_false_iff, beq_eq_false_iff_ne, ne_eq] at h3); (repeat first | with_reducible rfl | (refine Eq.trans (kstB_ne ?zqs) ?_; (case zqs => first | exact h2 | exact h2.1 | exact h2.2 | exact h2.2.1 | exact h2.2.2 | exact h2.2.2.1 | exact h2.2.2.2 | exact h3 | exact h3.1 | exact h3.2 | exact h3.2.1 | exact h3.2.2 | exact h4)) | (refine Eq.trans (kstB_nil _ _) ?_) | (refine Eq.trans (if_neg ?zqs) ?_; (case zqs => first | exact h2 | exact h2.1 | exact h2.2 | exact h2.2.1 | exact h2.2.2 | exact h2.2.2.1 | exact h2.2.2.2 | exact h3 | exact h3.1 | exact h3.2 | exact h3.2.1 | exact h3.2.2 | exact h4))); done) | (intro z h2 h3; simp only [List.forall_mem_cons, List.not_mem_nil, false_implies, implies_true, and_true, ne_eq] at h2; (try simp only [List.contains_cons, List.contains_nil, Bool.or_false, Bool.or_eq_false_iff, beq_eq_false_iff_ne, ne_eq] at h3); simp +zetaDelta [kstB, h2, h3]))
      · rw [hv, if_neg (fun e => hvn (Option.some.inj e))] at hp4
        (try k_fold)
        k_steps
        constructor
        refine ksw_end ⟨(f, md, last), (_, _)⟩ (by assumption) (by assumption) (by kst_in) (by kst_facts) (by first | kst_all | (simp only [← hdiv]; kst_all)) ?hr2 ⟨hp1, Nat.le_of_lt hm2, mid_f2 hp3 hm1, hp4⟩ (Nat.lt_succ_self f)
        (first | (intro z h2 h3; have h4 := ne_true_of_eq_false h3; simp only [List.forall_mem_cons, List.not_mem_nil, false_implies, implies_true, and_true, ne_eq] at h2; (try simp only [List.contains_cons, List.contains_nil, Bool.or_false, Bool.or_eq_false_iff, beq_eq_false_iff_ne, ne_eq] at h3); (repeat first | with_reducible rfl | (refine Eq.trans (kstB_ne ?zqs) ?_; (case zqs => first | exact h2 | exact h2.1 | exact h2.2 | exact h2.2.1 | exact h2.2.2 | exact h2.2.2.1 | exact h2.2.2.2 | exact h3 | exact h3.1 | exact h3.2 | exact h3.2.1 | exact h3.2.2 | exact h4)) | (refine Eq.trans (kstB_nil _ _) ?_) | (refine Eq.trans (if_neg ?zqs) ?_; (case zqs => first | exact h2 | exact h2.1 | exact h2.2 | exact h2.2.1 | exact h2.2.2 | exact h2.2.2.1 | exact h2.2.2.2 | exact h3 | exact h3.1 | exact h3.2 | exact h3.2.1 | exact h3.2.2 | exact h4))); done) | (intro z h2 h3; simp only [List.forall_mem_cons, List.not_mem_nil, false_implies, implies_true, and_true, ne_eq] at h2; (try simp only [List.contains_cons, List.contains_nil, Bool.or_false, Bool.or_eq_false_iff, beq_eq_false_iff_ne, ne_eq] at h3); simp +zetaDelta [kstB, h2, h3]))

theorem fl_true {n : Nat} (h : n = 0) : ((n : Int) == 0) = true := by rw [beq_iff_eq]; omega
set_option maxRecDepth 100000 in
set_option maxHeartbeats 8000000 in
theorem len2_spec (w : World) (t : Addr) (Y : Lay) (T : Tab) (hl : ¬ (0 < T.arr.length ∧ T.arr[T.arr.length - 1]? = some .none)) (hn : T.nodes.length = 0) : Spec w 377 [.ref t] 20 (fun nw => TabIn nw t Y T) (SameI (T.arr.length : Int)) := by
  unfold Spec
  k_fill
  intro mean mg mb dp un gd cn cs a ccd cl outer A₀ base h₀ L m news s Q E B F X N TP hk hP hd hu hret
  w_top on
  w_on
  rename TabIn _ _ _ _ => hT
  have hasz := hT.asz
  have hn' := fl_true hn
  by_cases h0 : T.arr.length = 0
  · k_steps
    all_goals first | exact hret _ _ _ _ (by k_asm) (by first | k_asm | exact News.tl (by k_asm) | exact News.tl (News.tl (by k_asm)) | exact News.tl (News.tl (News.tl (by k_asm)))) ⟨rfl, _, rfl⟩ | skip
  · obtain ⟨v, hv⟩ : ∃ v, T.arr[T.arr.length - 1]? = some v := ⟨_, List.getElem?_eq_getElem (by omega)⟩
    have hvn : v ≠ .none := fun e => hl ⟨by omega, by rw [hv, e]⟩
    have h1 : 0 < T.arr.length := by omega
    k_steps
    all_goals first | exact hret _ _ _ _ (by k_asm) (by first | k_asm | exact News.tl (by k_asm) | exact News.tl (News.tl (by k_asm)) | exact News.tl (News.tl (News.tl (by k_asm)))) ⟨rfl, _, rfl⟩ | skip
set_option maxRecDepth 100000 in
set_option maxHeartbeats 8000000 in
theorem len3_spec (w : World) (t : Addr) (Y : Lay) (T : Tab) (hl : ¬ (0 < T.arr.length ∧ T.arr[T.arr.length - 1]? = some .none)) (hn : 0 < T.nodes.length) (hg : getInt T ((T.arr.length : Int) + 1) = some .none) : Spec w 377 [.ref t] 20 (fun nw => TabIn nw t Y T) (SameI (T.arr.length : Int)) := by
  unfold Spec
  k_fill
  intro mean mg mb dp un gd cn cs a ccd cl outer A₀ base h₀ L m news s Q E B F X N TP hk hP hd hu hret
  w_top on
  w_on
  rename TabIn _ _ _ _ => hT
  have hasz := hT.asz
  have hn' := fl_false hn
  by_cases h0 : T.arr.length = 0
  · k_steps
    all_goals first | exact hret _ _ _ _ (by k_asm) (by first | k_asm | exact News.tl (by k_asm) | exact News.tl (News.tl (by k_asm)) | exact News.tl (News.tl (News.tl (by k_asm)))) ⟨rfl, _, rfl⟩ | skip
  · obtain ⟨v, hv⟩ : ∃ v, T.arr[T.arr.length - 1]? = some v := ⟨_, List.getElem?_eq_getElem (by omega)⟩
    have hvn : v ≠ .none := fun e => hl ⟨by omega, by rw [hv, e]⟩
    have h1 : 0 < T.arr.length := by omega
    k_steps
    all_goals first | exact hret _ _ _ _ (by k_asm) (by first | k_asm | exact News.tl (by k_asm) | exact News.tl (News.tl (by k_asm)) | exact News.tl (News.tl (News.tl (by k_asm)))) ⟨rfl, _, rfl⟩ | skip
theorem length_spec (w : World) (t : Addr) (Y : Lay) (T : Tab) (r : Int) (h : lenP T = some r) : Spec w 377 [.ref t] 20 (fun nw => TabIn nw t Y T) (SameI r) := by
  unfold lenP at h
  split at h
  · obtain rfl := Option.some.inj h
    exact len1_spec w t Y T (by omega) (by rename_i h9; exact h9.2)
  · split at h
    · obtain rfl := Option.some.inj h
      exact len2_spec w t Y T (by assumption) (by assumption)
    · split at h
      · obtain rfl := Option.some.inj h
        exact len3_spec w t Y T (by assumption) (by omega) (by assumption)
      · cases h

end
section
theorem wd_P29_0 : True := by
  k_with_none
  exact trivial
theorem wd_P29_52 : True := by
  k_with "KD" => first | exact dlt (by assumption) (by first | decide | omega) | exact dlt1 (by assumption) (by first | decide | omega) | exact dlt0 (by assumption) | ktr_room
  k_with "KU" => first | exact ult (by assumption) (by first | decide | omega) | ktr_units
  k_with "ENTER" => (refine' enter_ ?zqk1 ?zqk2 ?zqk3 ?zqk4 ?zqk5 ?zqkA ?zqkF ?zqkK ?zqk6 ?zqk7 ?zqk8 ?zqk9 ?zqkB ?_ ?zqc2 ?zqc3 ?zqc4 ?zqc5; (case zqkA => exact rfl); (case zqkF => exact rfl); (case zqkK => first | exact rfl | assumption); (case zqk1 => k_asm); (case zqk2 => k_asm); (case zqk3 => k_asm); (case zqk4 => k_asm); (case zqk5 => k_asm); (case zqk6 => k_is); (case zqk7 => k_is); (case zqk8 => walk_at "KD"); (case zqk9 => first | exact BindsTo.of_eq rfl | exact binds_K (by k_in) rfl (by k_is) rfl rfl rfl | fail "ENTER: no rule for these arguments"); (case zqc5 => decide); (case zqkB => exact locs rfl); (case zqc2 => exact rfl); (case zqc3 => exact rfl); (case zqc4 => exact rfl); k_whole; intro g' L' h' tk' FG' mm F' N' B' X' T' qk ek)
  k_with "call ref" => (k_here; k_dflt (first | (refine' call_cls0 ?zqk1 ?zqk2 ?zqk3 ?zqk4 ?zqk5 ?_; (case zqk1 => k_asm); (case zqk2 => k_asm); (case zqk3 => k_asm); (case zqk4 => k_is); (case zqk5 => k_is); k_whole; intro x' d' h' F' N' l1 l2; (try k_lt l1); (try k_lt2 l2); (try k_sweep)) | (refine' call_cls ?zqk1 ?zqk2 ?zqk3 ?zqk4 ?zqk5 ?zqk6 ?_; (case zqk1 => k_asm); (case zqk2 => k_asm); (case zqk3 => k_asm); (case zqk4 => k_is); (case zqk5 => k_is); (case zqk6 => k_is); k_whole; intro x' d' h' F' N' l1 l2; (try k_lt l1); (try k_lt2 l2); (try k_sweep); walk_at "ENTER") | (refine' call_meth ?zqk1 ?zqk2 ?_; (case zqk1 => k_asm); (case zqk2 => k_mem); k_whole; walk_at "ENTER") | (refine wpAny_call ?_; walk_at "ENTER")))
  k_with "call builtin:len" => (k_here; (with_reducible show wpAny _ _ (call (Value.builtin "len") [Value.ref _]) _ _ _); k_dflt (refine' kst_len ?zqk1 ?zqk2 ?zqk3 ?zqk4 ?_; (case zqk1 => k_asm); (case zqk2 => k_mem); (case zqk3 => first | assumption | exact rfl); (case zqk4 => omega); k_whole))
  k_with "WhileStep2" => (first | (with_reducible show WhileStep2 _ _ _ _ _ _ (Flow.ret _) _) | (with_reducible show WhileStep2 _ _ _ _ _ _ Flow.brk _)); (dsimp only [WhileStep2])
  k_with "execs cons" => (k_here; refine wpAny_execs_cons (foldQ ?_); intro qs)
  k_with "storeName" => (k_here; (try dsimp only); k_dflt (refine' store_ ?zqF ?zqN ?_ ?zqa ?zqb; (case zqF => k_asm); (case zqN => k_asm); (case zqa => first | exact rfl | assumption); (case zqb => rfl); k_whole; intro h' tk' mm F' N'; (try k_sweep)))
  k_with "exec While Compare cons nil" => refine Halt.go ?_
  k_with "pyIter ref" => refine Halt.go ?_
  k_with "call type:enumerate" => refine Halt.go ?_
  k_with "KswEnd" => refine Halt.at (k := "KswEnd") (by assumption) ?_
  k_with "subscriptTail" => refine Halt.at (k := "subscriptTail") (by assumption) ?_
  k_with "eval ListComp" => refine Halt.at (k := "eval ListComp") (by assumption) ?_
  k_with "CompSrc" => refine Halt.at (k := "CompSrc") (by assumption) ?_
  k_with "CompEnd" => refine Halt.at (k := "CompEnd") (by assumption) ?_
  k_with "call ref" => refine Halt.at (k := "call ref") (by assumption) ?_
  k_with "call builtin:sorted" => refine Halt.at (k := "call builtin:sorted") (by assumption) ?_
  k_with "call builtin:repr" => refine Halt.at (k := "call builtin:repr") (by assumption) ?_
  k_with "unpackItems ref" => refine Halt.at (k := "unpackItems ref") (by assumption) ?_
  k_with "compareOp Eq ref ref" => refine Halt.at (k := "compareOp Eq ref ref") (by assumption) ?_
  k_with "call type:str" => refine Halt.at (k := "call type:str") (by assumption) ?_
  k_with "K4" => ((case zqk1 => k_asm); (case zqk2 => k_asm); (case zqk3 => k_asm); (case zqk4 => k_asm))
  k_with "K56" => ((case zqk5 => first | assumption | (with_unfolding_all assumption)); (case zqk6 => first | assumption | (with_unfolding_all assumption)))
  k_with "KN" => (k_whole; intro h' tj' n' F' N' hT' hK'; (try dsimp only); (try k_sweep))
  k_with "getAttr ref" => (k_here; (with_reducible show wpAny _ _ (getAttr (Value.ref _) (PySem.Str.ofString "free") _) _ _ _); k_dflt (refine' get_free ?zqk1 ?zqk2 ?zqk3 ?zqk4 ?_; walk_at "K4"; k_whole; intro tk' tj'; (try dsimp only)))
  k_with "getAttr ref" => (k_here; (with_reducible show wpAny _ _ (getAttr (Value.ref _) (PySem.Str.ofString "size") _) _ _ _); k_dflt (refine' get_size ?zqk1 ?zqk2 ?zqk3 ?zqk4 ?_; walk_at "K4"; k_whole; intro tk' tj'; (try dsimp only)))
  k_with "getAttr ref" => (k_here; (with_reducible show wpAny _ _ (getAttr (Value.ref _) (PySem.Str.ofString "array") _) _ _ _); k_dflt (refine' get_array ?zqk1 ?zqk2 ?zqk3 ?zqk4 ?_; walk_at "K4"; k_whole; intro tj'; (try dsimp only)))
  k_with "getAttr ref" => (k_here; (with_reducible show wpAny _ _ (getAttr (Value.ref _) (PySem.Str.ofString "nodes") _) _ _ _); k_dflt (refine' get_nodes ?zqk1 ?zqk2 ?zqk3 ?zqk4 ?_; walk_at "K4"; k_whole; intro tj'; (try dsimp only)))
  k_with "getAttr ref" => (k_here; (with_reducible show wpAny _ _ (getAttr (Value.ref _) (PySem.Str.ofString "key") _) _ _ _); k_dflt (first | (refine' get_key_none ?zqk1 ?zqk2 ?zqk3 ?zqk4 ?zqk5 ?zqk6 ?zqk7 ?_; walk_at "K4"; walk_at "K56"; (case zqk7 => assumption); k_whole; intro tj'; (try dsimp only)) | (refine' get_key_some ?zqk1 ?zqk2 ?zqk3 ?zqk4 ?zqk5 ?zqk6 ?zqk7 ?_; walk_at "K4"; walk_at "K56"; (case zqk7 => assumption); k_whole; intro kv' tj' hkv'; (try dsimp only)) | (refine' get_key_any ?zqk1 ?zqk2 ?zqk3 ?zqk4 ?zqk5 ?zqk6 ?_; walk_at "K4"; walk_at "K56"; k_whole; intro kv' tj' hkv'; (try dsimp only))))
  k_with "getAttr ref" => (k_here; (with_reducible show wpAny _ _ (getAttr (Value.ref _) (PySem.Str.ofString "value") _) _ _ _); k_dflt (refine' get_value ?zqk1 ?zqk2 ?zqk3 ?zqk4 ?zqk5 ?zqk6 ?_; walk_at "K4"; walk_at "K56"; k_whole; intro tj'; (try dsimp only)))
  k_with "getAttr ref" => (k_here; (with_reducible show wpAny _ _ (getAttr (Value.ref _) (PySem.Str.ofString "next") _) _ _ _); k_dflt (refine' get_next ?zqk1 ?zqk2 ?zqk3 ?zqk4 ?zqk5 ?zqk6 ?_; walk_at "K4"; walk_at "K56"; k_whole; intro tk' tj'; (try dsimp only)))
  k_with "setAttr ref" => (k_here; (with_reducible show wpAny _ _ (setAttr (Value.ref _) (PySem.Str.ofString "free") _) _ _ _); k_dflt (refine' set_free ?zqk1 ?zqk2 ?zqk3 ?zqk4 ?_; walk_at "K4"; walk_at "KN"))
  k_with "setAttr ref" => (k_here; (with_reducible show wpAny _ _ (setAttr (Value.ref _) (PySem.Str.ofString "size") _) _ _ _); k_dflt (refine' set_size ?zqk1 ?zqk2 ?zqk3 ?zqk4 ?_; walk_at "K4"; walk_at "KN"))
  k_with "setAttr ref" => (k_here; (with_reducible show wpAny _ _ (setAttr (Value.ref _) (PySem.Str.ofString "flags") _) _ _ _); k_dflt (refine' set_flags ?zqk1 ?zqk2 ?zqk3 ?zqk4 ?_; walk_at "K4"; walk_at "KN"))
  k_with "setAttr ref" => (k_here; (with_reducible show wpAny _ _ (setAttr (Value.ref _) (PySem.Str.ofString "log_nodes") _) _ _ _); k_dflt (refine' set_log_nodes ?zqk1 ?zqk2 ?zqk3 ?zqk4 ?_; walk_at "K4"; walk_at "KN"))
  k_with "setAttr ref" => (k_here; (with_reducible show wpAny _ _ (setAttr (Value.ref _) (PySem.Str.ofString "key") _) _ _ _); k_dflt (refine' set_key ?zqk1 ?zqk2 ?zqk3 ?zqk4 ?zqk5 ?zqk6 ?zqk7 ?_; walk_at "K4"; walk_at "K56"; (case zqk7 => first | assumption | exact KV.none); walk_at "KN"))
  k_with "setAttr ref" => (k_here; (with_reducible show wpAny _ _ (setAttr (Value.ref _) (PySem.Str.ofString "value") _) _ _ _); k_dflt (refine' set_value ?zqk1 ?zqk2 ?zqk3 ?zqk4 ?zqk5 ?zqk6 ?zqk7 ?_; walk_at "K4"; walk_at "K56"; (case zqk7 => first | assumption | rfl); walk_at "KN"))
  k_with "setAttr ref" => (k_here; (with_reducible show wpAny _ _ (setAttr (Value.ref _) (PySem.Str.ofString "next") _) _ _ _); k_dflt (refine' set_next ?zqk1 ?zqk2 ?zqk3 ?zqk4 ?zqk5 ?zqk6 ?_; walk_at "K4"; walk_at "K56"; walk_at "KN"))
  k_with "getMethod ref" => (k_here; (with_reducible show wpAny _ _ (getMethod (Value.ref _) _ _) _ _ _); k_dflt (refine' tab_meth ?zqk1 ?zqk2 ?zqk3 ?zqk4 ?zqk5 ?zqk6 ?zqk7 ?zqk8 ?_; walk_at "K4"; (case zqk5 => k_is); (case zqk6 => k_is); (case zqk7 => k_is); (case zqk8 => decide +kernel); k_whole))
  k_with "call builtin:len" => (k_here; (with_reducible show wpAny _ _ (call (Value.builtin "len") [Value.ref _]) _ _ _); k_dflt (first | (refine' len_nodes ?zqk3 ?zqk4 ?_; (case zqk3 => k_asm); (case zqk4 => k_asm); k_whole; intro tk' tj'; (try dsimp only)) | (refine' len_arr ?zqk3 ?zqk4 ?_; (case zqk3 => k_asm); (case zqk4 => k_asm); k_whole; intro tk' tj'; (try dsimp only))))
  k_with "subscriptTail" => (k_here; (with_reducible show wpAny _ _ (subscriptTail _ _ (Value.ref _) (Value.int _ _)) _ _ _); k_dflt (first | (refine' item_node ?zqk3 ?zqk4 ?zqk5 ?zqk6 ?_ ?zqk7; (case zqk3 => k_asm); (case zqk4 => k_asm); (case zqk5 => assumption); (case zqk6 => first | assumption | omega); (case zqk7 => with_unfolding_all rfl); k_whole) | (refine' item_arr ?zqk3 ?zqk4 ?zqk5 ?zqk6 ?_ ?zqk7; (case zqk3 => k_asm); (case zqk4 => k_asm); (case zqk5 => assumption); (case zqk6 => first | assumption | omega); (case zqk7 => with_unfolding_all rfl); k_whole)))
  k_with "setItem ref int" => (k_here; (with_reducible show wpAny _ _ (setItem (Value.ref _) (Value.int _ _) _) _ _ _); k_dflt (refine' set_arr ?zqk1 ?zqk3 ?zqk4 ?zqk5 ?zqk6 ?_; (case zqk1 => k_asm); (case zqk3 => k_asm); (case zqk4 => k_asm); (case zqk5 => omega); (case zqk6 => (try dsimp only); omega); k_whole; intro h' n' F' N' hT' hK'; (try dsimp only); (try k_sweep)))
  k_with "call builtin:list.append" => (k_here; (with_reducible show wpAny _ _ (call (Value.builtin _) [Value.ref _, _]) _ _ _); k_dflt (refine' app_arr ?zqk1 ?zqk3 ?zqk4 ?zqk5 ?_; (case zqk1 => k_asm); (case zqk3 => k_asm); (case zqk4 => k_asm); (case zqk5 => (try dsimp only); omega); k_whole; intro h' n' F' N' hT' hK'; (try dsimp only); (try k_sweep)))
  k_with "compareOp Is" => (k_here; (with_reducible show wpAny _ _ (compareOp CmpOp.Is _ Value.none) _ _ _); k_dflt (refine' kv_isnone ?zqk1 ?_; (case zqk1 => assumption); k_whole))
  k_with "exec For Name Name cons nil" => (k_here; (rename Fr _ _ _ _ => lF'); (with_unfolding_all refine' For_invVF lF' ?zqk1 ?zqk2 ?_; (case zqk1 => exact rfl); (case zqk2 => exact rfl); k_whole))
  k_with "exec For Name Call cons nil" => (k_here; (rename Fr _ _ _ _ => lF'); (with_unfolding_all refine' For_invVF lF' ?zqk1 ?zqk2 ?_; (case zqk1 => exact rfl); (case zqk2 => exact rfl); k_whole))
  k_with "exec For Name Attribute cons nil" => (k_here; (rename Fr _ _ _ _ => lF'); (with_unfolding_all refine' For_invVF lF' ?zqk1 ?zqk2 ?_; (case zqk1 => exact rfl); (case zqk2 => exact rfl); k_whole))
  k_with "TP" => ((first | (with_reducible show Mine.TP _ _ _ _ _ _ (Flow.ret _) _) | (with_reducible show Mine.TP _ _ _ _ _ _ Flow.brk _) | (with_reducible show Mine.TP _ _ _ _ _ _ Flow.next _) | (with_reducible show Mine.TP _ _ _ _ _ _ Flow.cont _)); (dsimp only [Mine.TP]))
  k_with "compareOp Is" => (k_here; (with_reducible show wpAny _ _ (compareOp CmpOp.Is _ Value.none) _ _ _); k_dflt (first | (refine' is_eq ?zqk1 ?_; (case zqk1 => assumption); k_whole) | (refine' is_ne ?zqk1 ?_; (case zqk1 => assumption); k_whole)))
  k_with "compareOp IsNot" => (k_here; (with_reducible show wpAny _ _ (compareOp CmpOp.IsNot _ Value.none) _ _ _); k_dflt (first | (refine' isnot_eq ?zqk1 ?_; (case zqk1 => assumption); k_whole) | (refine' isnot_ne ?zqk1 ?_; (case zqk1 => assumption); k_whole)))
  k_with "call ref" => (k_here; k_dflt ((refine' Spec.useV (getint_spec _ _ _ _ _ _ _ (by assumption)) ?zqk1 ?zqk2 ?zqk3 ?zqk4 ?zqk5 ?zqkK ?zqkP ?zqkd ?zqku ?_; (case zqk1 => k_asm); (case zqk2 => k_asm); (case zqk3 => k_asm); (case zqk4 => k_asm); (case zqk5 => k_asm); (case zqkK => first | exact rfl | assumption); (case zqkP => assumption); (case zqkd => walk_at "KD"); (case zqku => walk_at "KU"); k_whole; intro h' tk' F' N'); (try dsimp only); (try k_sweep)))
  exact trivial
noncomputable def NumS (w : World) (v : Value) (P0 : Led → Prop) (b : Bool) : Prop := Spec w 90 [v] 4 P0 (SameB b)
section
theorem wd_P29_53 : True := by
  k_with "call ref" => (k_here; k_dflt ((refine' Spec.useB (by assumption : NumS _ _ _ _) ?zqk1 ?zqk2 ?zqk3 ?zqk4 ?zqk5 ?zqkK ?zqkP ?zqkd ?zqku ?_; (case zqk1 => k_asm); (case zqk2 => k_asm); (case zqk3 => k_asm); (case zqk4 => k_asm); (case zqk5 => k_asm); (case zqkK => first | exact rfl | assumption); (case zqkP => assumption); (case zqkd => walk_at "KD"); (case zqku => walk_at "KU"); k_whole; intro h' tk' F' N'); (try dsimp only); (try k_sweep)))
  exact trivial
set_option maxRecDepth 100000 in
set_option maxHeartbeats 8000000 in
theorem fnum_not (w : World) (t : Addr) (Y : Lay) (T : Tab) (v : Value) (P0 : Led → Prop) (S : NumS w v P0 false) (hv : getInt T 0 = some v) : Spec w 417 [.ref t] 24 (fun nw => TabIn nw t Y T ∧ P0 nw) (SameV .none) := by
  unfold Spec
  k_fill
  intro mean mg mb dp un gd cn cs a ccd cl outer A₀ base h₀ L m news s Q E B F X N TP hk hP hd hu hret
  w_top on
  w_on
  obtain ⟨hT, hP0⟩ := hP
  k_steps
  exact hret _ _ _ _ (by k_asm) (by k_asm) ⟨rfl, rfl⟩
end
section
theorem wd_P29_54 : True := by
  k_with "call ref" => (k_here; k_dflt ((refine' Spec.useB (isnum_int _ _ _) ?zqk1 ?zqk2 ?zqk3 ?zqk4 ?zqk5 ?zqkK ?zqkP ?zqkd ?zqku ?_; (case zqk1 => k_asm); (case zqk2 => k_asm); (case zqk3 => k_asm); (case zqk4 => k_asm); (case zqk5 => k_asm); (case zqkK => first | exact rfl | assumption); (case zqkP => trivial); (case zqkd => walk_at "KD"); (case zqku => walk_at "KU"); k_whole; intro h' tk' F' N'); (try dsimp only); (try k_sweep)))
  exact trivial
set_option maxRecDepth 100000 in
set_option maxHeartbeats 8000000 in
theorem fnum_zero (w : World) (t : Addr) (Y : Lay) (T : Tab) (tk : Tok) (hv : getInt T 0 = some (.int 0 tk)) : Spec w 417 [.ref t] 24 (fun nw => TabIn nw t Y T) (SameV .none) := by
  unfold Spec
  k_fill
  intro mean mg mb dp un gd cn cs a ccd cl outer A₀ base h₀ L m news s Q E B F X N TP hk hP hd hu hret
  w_top on
  w_on
  rename TabIn _ _ _ _ => hT
  k_steps
  exact hret _ _ _ _ (by k_asm) (by k_asm) ⟨rfl, rfl⟩
set_option maxRecDepth 100000 in
set_option maxHeartbeats 8000000 in
theorem fnum_int (w : World) (t : Addr) (Y : Lay) (T : Tab) (i : Int) (tk : Tok) (hi : (i != 0) = true) (hv : getInt T 0 = some (.int i tk)) : Spec w 417 [.ref t] 24 (fun nw => TabIn nw t Y T) (SameV (.int i tk)) := by
  unfold Spec
  k_fill
  intro mean mg mb dp un gd cn cs a ccd cl outer A₀ base h₀ L m news s Q E B F X N TP hk hP hd hu hret
  w_top on
  w_on
  rename TabIn _ _ _ _ => hT
  k_steps
  exact hret _ _ _ _ (by k_asm) (by k_asm) ⟨rfl, rfl⟩
end
noncomputable def FreeS (w : World) (t : Addr) (Y : Lay) (T : Tab) (P0 : Led → Prop) (v : Value) : Prop := Spec w 417 [.ref t] 24 (fun nw => TabIn nw t Y T ∧ P0 nw) (SameV v)
noncomputable def KeepR (t : Addr) (Y : Lay) (T' : Tab) (i : Int) : Led → Value → Led → Prop := fun n0 r n1 => (∃ tk, r = .int i tk) ∧ ∃ Y', TabIn n1 t Y' T' ∧ Step Y n0 Y' n1
theorem wd_P29_55 : True := by
  k_with "call ref" => (k_here; k_dflt ((refine' Spec.useV (by assumption : FreeS _ _ _ _ _ _) ?zqk1 ?zqk2 ?zqk3 ?zqk4 ?zqk5 ?zqkK ?zqkP ?zqkd ?zqku ?_; (case zqk1 => k_asm); (case zqk2 => k_asm); (case zqk3 => k_asm); (case zqk4 => k_asm); (case zqk5 => k_asm); (case zqkK => first | exact rfl | assumption); (case zqkP => (exact ⟨by assumption, by assumption⟩)); (case zqkd => walk_at "KD"); (case zqku => walk_at "KU"); k_whole; intro h' tk' F' N'); (try dsimp only); (try k_sweep)))
  k_with "call ref" => (k_here; k_dflt ((refine' Spec.useI (length_spec _ _ _ _ _ (by assumption)) ?zqk1 ?zqk2 ?zqk3 ?zqk4 ?zqk5 ?zqkK ?zqkP ?zqkd ?zqku ?_; (case zqk1 => k_asm); (case zqk2 => k_asm); (case zqk3 => k_asm); (case zqk4 => k_asm); (case zqk5 => k_asm); (case zqkK => first | exact rfl | assumption); (case zqkP => assumption); (case zqkd => walk_at "KD"); (case zqku => walk_at "KU"); k_whole; intro t1 h' tk' F' N'); (try dsimp only); (try k_sweep)))
  k_with "call ref" => (k_here; k_dflt ((refine' Spec.useT (set_spec _ _ _ _ _ _ _ _ (KV.int _ _) trivial (by assumption) (by assumption)) ?zqk1 ?zqk2 ?zqk3 ?zqk4 ?zqk5 ?zqkK ?zqkP ?zqkd ?zqku ?_; (case zqk1 => k_asm); (case zqk2 => k_asm); (case zqk3 => k_asm); (case zqk4 => k_asm); (case zqk5 => k_asm); (case zqkK => first | exact rfl | assumption); (case zqkP => assumption); (case zqkd => walk_at "KD"); (case zqku => walk_at "KU"); k_whole; intro h' tk' n' Y9 F' N' hT9 hS9); (try dsimp only); (try k_sweep)))
  exact trivial
set_option maxRecDepth 100000 in
set_option maxHeartbeats 8000000 in
theorem keepA (w : World) (t : Addr) (Y : Lay) (T : Tab) (P0 : Led → Prop) (S : FreeS w t Y T P0 .none) (n : Int) (hn : lenP T = some n) (v : Value) (hv : handedIn v = true) (T' : Tab) (hs : setT T (.int (n + 1)) v = some T') : Spec w 424 [.ref t, v, .none] 170 (fun nw => TabIn nw t Y T ∧ P0 nw) (KeepR t Y T' (n + 1)) := by
  unfold Spec
  k_fill
  intro mean mg mb dp un gd cn cs a ccd cl outer A₀ base h₀ L m news s Q E B F X N TP hk hP hd hu hret
  w_top on
  w_on
  obtain ⟨hT, hP0⟩ := hP
  k_steps
  exact hret _ _ _ _ (by k_asm) (by k_asm) ⟨⟨_, rfl⟩, _, by assumption, by assumption⟩
set_option maxRecDepth 100000 in
set_option maxHeartbeats 8000000 in
theorem keepB (w : World) (t : Addr) (Y : Lay) (T : Tab) (P0 : Led → Prop) (i : Int) (tk : Tok) (S : FreeS w t Y T P0 (.int i tk)) (u v : Value) (hu : getInt T i = some u) (hhu : handedIn u = true) (hv : handedIn v = true) (T1 T2 : Tab) (hs1 : setT T (.int 0) u = some T1) (hs2 : setT T1 (.int i) v = some T2) : Spec w 424 [.ref t, v, .none] 170 (fun nw => TabIn nw t Y T ∧ P0 nw) (KeepR t Y T2 i) := by
  unfold Spec
  k_fill
  intro mean mg mb dp un gd cn cs a ccd cl outer A₀ base h₀ L m news s Q E B F X N TP hk hP hd hu hret
  w_top on
  w_on
  obtain ⟨hT, hP0⟩ := hP
  k_steps
  exact hret _ _ _ _ (by k_asm) (by k_asm) ⟨⟨_, rfl⟩, _, by assumption, .trans (by assumption) (by assumption)⟩
theorem hi_int {i : Int} {t : Tok} : handedIn (.int i t) = true := rfl
theorem wd_P29_56 : True := by
  k_with "call ref" => (k_here; k_dflt ((refine' Spec.useT (set_spec _ _ _ _ _ _ _ _ (KV.int _ _) trivial (by first | assumption | exact hi_int) (by assumption)) ?zqk1 ?zqk2 ?zqk3 ?zqk4 ?zqk5 ?zqkK ?zqkP ?zqkd ?zqku ?_; (case zqk1 => k_asm); (case zqk2 => k_asm); (case zqk3 => k_asm); (case zqk4 => k_asm); (case zqk5 => k_asm); (case zqkK => first | exact rfl | assumption); (case zqkP => assumption); (case zqkd => walk_at "KD"); (case zqku => walk_at "KU"); k_whole; intro h' tk' n' Y9 F' N' hT9 hS9); (try dsimp only); (try k_sweep)))
  exact trivial
set_option maxRecDepth 100000 in
set_option maxHeartbeats 8000000 in
theorem drop_spec (w : World) (t : Addr) (Y : Lay) (T : Tab) (n : Int) (tk : Tok) (h0 : n ≥ 0) (u : Value) (hu : getInt T 0 = some u) (hhu : handedIn u = true) (T1 T2 : Tab) (hs1 : setT T (.int n) u = some T1) (hs2 : setT T1 (.int 0) (.int n tk) = some T2) : Spec w 431 [.ref t, .int n tk, .none] 170 (fun nw => TabIn nw t Y T) (TabNew t Y T2) := by
  unfold Spec
  k_fill
  intro mean mg mb dp un gd cn cs a ccd cl outer A₀ base h₀ L m news s Q E B F X N TP hk hP hd hu hret
  w_top on
  w_on
  rename TabIn _ _ _ _ => hT
  k_steps
  exact hret _ _ _ _ (by k_asm) (by k_asm) ⟨rfl, _, by assumption, .trans (by assumption) (by assumption)⟩

end
section
theorem wd_X1_0 : True := by
  k_with_none
  exact trivial
theorem wd_X1_57 : True := by
  k_with "KD" => first | exact dlt (by assumption) (by first | decide | omega) | exact dlt1 (by assumption) (by first | decide | omega) | exact dlt0 (by assumption) | ktr_room
  k_with "KU" => first | exact ult (by assumption) (by first | decide | omega) | ktr_units
  k_with "ENTER" => (refine' enter_ ?zqk1 ?zqk2 ?zqk3 ?zqk4 ?zqk5 ?zqkA ?zqkF ?zqkK ?zqk6 ?zqk7 ?zqk8 ?zqk9 ?zqkB ?_ ?zqc2 ?zqc3 ?zqc4 ?zqc5; (case zqkA => exact rfl); (case zqkF => exact rfl); (case zqkK => first | exact rfl | assumption); (case zqk1 => k_asm); (case zqk2 => k_asm); (case zqk3 => k_asm); (case zqk4 => k_asm); (case zqk5 => k_asm); (case zqk6 => k_is); (case zqk7 => k_is); (case zqk8 => walk_at "KD"); (case zqk9 => first | exact BindsTo.of_eq rfl | exact binds_K (by k_in) rfl (by k_is) rfl rfl rfl | fail "ENTER: no rule for these arguments"); (case zqc5 => decide); (case zqkB => exact locs rfl); (case zqc2 => exact rfl); (case zqc3 => exact rfl); (case zqc4 => exact rfl); k_whole; intro g' L' h' tk' FG' mm F' N' B' X' T' qk ek)
  k_with "call ref" => (k_here; k_dflt (first | (refine' call_cls0 ?zqk1 ?zqk2 ?zqk3 ?zqk4 ?zqk5 ?_; (case zqk1 => k_asm); (case zqk2 => k_asm); (case zqk3 => k_asm); (case zqk4 => k_is); (case zqk5 => k_is); k_whole; intro x' d' h' F' N' l1 l2; (try k_lt l1); (try k_lt2 l2); (try k_sweep)) | (refine' call_cls ?zqk1 ?zqk2 ?zqk3 ?zqk4 ?zqk5 ?zqk6 ?_; (case zqk1 => k_asm); (case zqk2 => k_asm); (case zqk3 => k_asm); (case zqk4 => k_is); (case zqk5 => k_is); (case zqk6 => k_is); k_whole; intro x' d' h' F' N' l1 l2; (try k_lt l1); (try k_lt2 l2); (try k_sweep); walk_at "ENTER") | (refine' call_meth ?zqk1 ?zqk2 ?_; (case zqk1 => k_asm); (case zqk2 => k_mem); k_whole; walk_at "ENTER") | (refine wpAny_call ?_; walk_at "ENTER")))
  k_with "call builtin:len" => (k_here; (with_reducible show wpAny _ _ (call (Value.builtin "len") [Value.ref _]) _ _ _); k_dflt (refine' kst_len ?zqk1 ?zqk2 ?zqk3 ?zqk4 ?_; (case zqk1 => k_asm); (case zqk2 => k_mem); (case zqk3 => first | assumption | exact rfl); (case zqk4 => omega); k_whole))
  k_with "WhileStep2" => (first | (with_reducible show WhileStep2 _ _ _ _ _ _ (Flow.ret _) _) | (with_reducible show WhileStep2 _ _ _ _ _ _ Flow.brk _)); (dsimp only [WhileStep2])
  k_with "execs cons" => (k_here; refine wpAny_execs_cons (foldQ ?_); intro qs)
  k_with "storeName" => (k_here; (try dsimp only); k_dflt (refine' store_ ?zqF ?zqN ?_ ?zqa ?zqb; (case zqF => k_asm); (case zqN => k_asm); (case zqa => first | exact rfl | assumption); (case zqb => rfl); k_whole; intro h' tk' mm F' N'; (try k_sweep)))
  k_with "exec While Compare cons nil" => refine Halt.go ?_
  k_with "pyIter ref" => refine Halt.go ?_
  k_with "call type:enumerate" => refine Halt.go ?_
  k_with "KswEnd" => refine Halt.at (k := "KswEnd") (by assumption) ?_
  k_with "subscriptTail" => refine Halt.at (k := "subscriptTail") (by assumption) ?_
  k_with "eval ListComp" => refine Halt.at (k := "eval ListComp") (by assumption) ?_
  k_with "CompSrc" => refine Halt.at (k := "CompSrc") (by assumption) ?_
  k_with "CompEnd" => refine Halt.at (k := "CompEnd") (by assumption) ?_
  k_with "call ref" => refine Halt.at (k := "call ref") (by assumption) ?_
  k_with "call builtin:sorted" => refine Halt.at (k := "call builtin:sorted") (by assumption) ?_
  k_with "call builtin:repr" => refine Halt.at (k := "call builtin:repr") (by assumption) ?_
  k_with "unpackItems ref" => refine Halt.at (k := "unpackItems ref") (by assumption) ?_
  k_with "compareOp Eq ref ref" => refine Halt.at (k := "compareOp Eq ref ref") (by assumption) ?_
  k_with "call type:str" => refine Halt.at (k := "call type:str") (by assumption) ?_
  k_with "K4" => ((case zqk1 => k_asm); (case zqk2 => k_asm); (case zqk3 => k_asm); (case zqk4 => k_asm))
  k_with "K56" => ((case zqk5 => first | assumption | (with_unfolding_all assumption)); (case zqk6 => first | assumption | (with_unfolding_all assumption)))
  k_with "KN" => (k_whole; intro h' tj' n' F' N' hT' hK'; (try dsimp only); (try k_sweep))
  k_with "getAttr ref" => (k_here; (with_reducible show wpAny _ _ (getAttr (Value.ref _) (PySem.Str.ofString "free") _) _ _ _); k_dflt (refine' get_free ?zqk1 ?zqk2 ?zqk3 ?zqk4 ?_; walk_at "K4"; k_whole; intro tk' tj'; (try dsimp only)))
  k_with "getAttr ref" => (k_here; (with_reducible show wpAny _ _ (getAttr (Value.ref _) (PySem.Str.ofString "size") _) _ _ _); k_dflt (refine' get_size ?zqk1 ?zqk2 ?zqk3 ?zqk4 ?_; walk_at "K4"; k_whole; intro tk' tj'; (try dsimp only)))
  k_with "getAttr ref" => (k_here; (with_reducible show wpAny _ _ (getAttr (Value.ref _) (PySem.Str.ofString "array") _) _ _ _); k_dflt (refine' get_array ?zqk1 ?zqk2 ?zqk3 ?zqk4 ?_; walk_at "K4"; k_whole; intro tj'; (try dsimp only)))
  k_with "getAttr ref" => (k_here; (with_reducible show wpAny _ _ (getAttr (Value.ref _) (PySem.Str.ofString "nodes") _) _ _ _); k_dflt (refine' get_nodes ?zqk1 ?zqk2 ?zqk3 ?zqk4 ?_; walk_at "K4"; k_whole; intro tj'; (try dsimp only)))
  k_with "getAttr ref" => (k_here; (with_reducible show wpAny _ _ (getAttr (Value.ref _) (PySem.Str.ofString "key") _) _ _ _); k_dflt (first | (refine' get_key_none ?zqk1 ?zqk2 ?zqk3 ?zqk4 ?zqk5 ?zqk6 ?zqk7 ?_; walk_at "K4"; walk_at "K56"; (case zqk7 => assumption); k_whole; intro tj'; (try dsimp only)) | (refine' get_key_some ?zqk1 ?zqk2 ?zqk3 ?zqk4 ?zqk5 ?zqk6 ?zqk7 ?_; walk_at "K4"; walk_at "K56"; (case zqk7 => assumption); k_whole; intro kv' tj' hkv'; (try dsimp only)) | (refine' get_key_any ?zqk1 ?zqk2 ?zqk3 ?zqk4 ?zqk5 ?zqk6 ?_; walk_at "K4"; walk_at "K56"; k_whole; intro kv' tj' hkv'; (try dsimp only))))
  k_with "getAttr ref" => (k_here; (with_reducible show wpAny _ _ (getAttr (Value.ref _) (PySem.Str.ofString "value") _) _ _ _); k_dflt (refine' get_value ?zqk1 ?zqk2 ?zqk3 ?zqk4 ?zqk5 ?zqk6 ?_; walk_at "K4"; walk_at "K56"; k_whole; intro tj'; (try dsimp only)))
  k_with "getAttr ref" => (k_here; (with_reducible show wpAny _ _ (getAttr (Value.ref _) (PySem.Str.ofString "next") _) _ _ _); k_dflt (refine' get_next ?zqk1 ?zqk2 ?zqk3 ?zqk4 ?zqk5 ?zqk6 ?_; walk_at "K4"; walk_at "K56"; k_whole; intro tk' tj'; (try dsimp only)))
  k_with "setAttr ref" => (k_here; (with_reducible show wpAny _ _ (setAttr (Value.ref _) (PySem.Str.ofString "free") _) _ _ _); k_dflt (refine' set_free ?zqk1 ?zqk2 ?zqk3 ?zqk4 ?_; walk_at "K4"; walk_at "KN"))
  k_with "setAttr ref" => (k_here; (with_reducible show wpAny _ _ (setAttr (Value.ref _) (PySem.Str.ofString "size") _) _ _ _); k_dflt (refine' set_size ?zqk1 ?zqk2 ?zqk3 ?zqk4 ?_; walk_at "K4"; walk_at "KN"))
  k_with "setAttr ref" => (k_here; (with_reducible show wpAny _ _ (setAttr (Value.ref _) (PySem.Str.ofString "flags") _) _ _ _); k_dflt (refine' set_flags ?zqk1 ?zqk2 ?zqk3 ?zqk4 ?_; walk_at "K4"; walk_at "KN"))
  k_with "setAttr ref" => (k_here; (with_reducible show wpAny _ _ (setAttr (Value.ref _) (PySem.Str.ofString "log_nodes") _) _ _ _); k_dflt (refine' set_log_nodes ?zqk1 ?zqk2 ?zqk3 ?zqk4 ?_; walk_at "K4"; walk_at "KN"))
  k_with "setAttr ref" => (k_here; (with_reducible show wpAny _ _ (setAttr (Value.ref _) (PySem.Str.ofString "key") _) _ _ _); k_dflt (refine' set_key ?zqk1 ?zqk2 ?zqk3 ?zqk4 ?zqk5 ?zqk6 ?zqk7 ?_; walk_at "K4"; walk_at "K56"; (case zqk7 => first | assumption | exact KV.none); walk_at "KN"))
  k_with "setAttr ref" => (k_here; (with_reducible show wpAny _ _ (setAttr (Value.ref _) (PySem.Str.ofString "value") _) _ _ _); k_dflt (refine' set_value ?zqk1 ?zqk2 ?zqk3 ?zqk4 ?zqk5 ?zqk6 ?zqk7 ?_; walk_at "K4"; walk_at "K56"; (case zqk7 => first | assumption | rfl); walk_at "KN"))
  k_with "setAttr ref" => (k_here; (with_reducible show wpAny _ _ (setAttr (Value.ref _) (PySem.Str.ofString "next") _) _ _ _); k_dflt (refine' set_next ?zqk1 ?zqk2 ?zqk3 ?zqk4 ?zqk5 ?zqk6 ?_; walk_at "K4"; walk_at "K56"; walk_at "KN"))
  k_with "getMethod ref" => (k_here; (with_reducible show wpAny _ _ (getMethod (Value.ref _) _ _) _ _ _); k_dflt (refine' tab_meth ?zqk1 ?zqk2 ?zqk3 ?zqk4 ?zqk5 ?zqk6 ?zqk7 ?zqk8 ?_; walk_at "K4"; (case zqk5 => k_is); (case zqk6 => k_is); (case zqk7 => k_is); (case zqk8 => decide +kernel); k_whole))
  k_with "call builtin:len" => (k_here; (with_reducible show wpAny _ _ (call (Value.builtin "len") [Value.ref _]) _ _ _); k_dflt (first | (refine' len_nodes ?zqk3 ?zqk4 ?_; (case zqk3 => k_asm); (case zqk4 => k_asm); k_whole; intro tk' tj'; (try dsimp only)) | (refine' len_arr ?zqk3 ?zqk4 ?_; (case zqk3 => k_asm); (case zqk4 => k_asm); k_whole; intro tk' tj'; (try dsimp only))))
  k_with "subscriptTail" => (k_here; (with_reducible show wpAny _ _ (subscriptTail _ _ (Value.ref _) (Value.int _ _)) _ _ _); k_dflt (first | (refine' item_node ?zqk3 ?zqk4 ?zqk5 ?zqk6 ?_ ?zqk7; (case zqk3 => k_asm); (case zqk4 => k_asm); (case zqk5 => assumption); (case zqk6 => first | assumption | omega); (case zqk7 => with_unfolding_all rfl); k_whole) | (refine' item_arr ?zqk3 ?zqk4 ?zqk5 ?zqk6 ?_ ?zqk7; (case zqk3 => k_asm); (case zqk4 => k_asm); (case zqk5 => assumption); (case zqk6 => first | assumption | omega); (case zqk7 => with_unfolding_all rfl); k_whole)))
  k_with "setItem ref int" => (k_here; (with_reducible show wpAny _ _ (setItem (Value.ref _) (Value.int _ _) _) _ _ _); k_dflt (refine' set_arr ?zqk1 ?zqk3 ?zqk4 ?zqk5 ?zqk6 ?_; (case zqk1 => k_asm); (case zqk3 => k_asm); (case zqk4 => k_asm); (case zqk5 => omega); (case zqk6 => (try dsimp only); omega); k_whole; intro h' n' F' N' hT' hK'; (try dsimp only); (try k_sweep)))
  k_with "call builtin:list.append" => (k_here; (with_reducible show wpAny _ _ (call (Value.builtin _) [Value.ref _, _]) _ _ _); k_dflt (refine' app_arr ?zqk1 ?zqk3 ?zqk4 ?zqk5 ?_; (case zqk1 => k_asm); (case zqk3 => k_asm); (case zqk4 => k_asm); (case zqk5 => (try dsimp only); omega); k_whole; intro h' n' F' N' hT' hK'; (try dsimp only); (try k_sweep)))
  k_with "compareOp Is" => (k_here; (with_reducible show wpAny _ _ (compareOp CmpOp.Is _ Value.none) _ _ _); k_dflt (refine' kv_isnone ?zqk1 ?_; (case zqk1 => assumption); k_whole))
  k_with "exec For Name Name cons nil" => (k_here; (rename Fr _ _ _ _ => lF'); (with_unfolding_all refine' For_invVF lF' ?zqk1 ?zqk2 ?_; (case zqk1 => exact rfl); (case zqk2 => exact rfl); k_whole))
  k_with "exec For Name Call cons nil" => (k_here; (rename Fr _ _ _ _ => lF'); (with_unfolding_all refine' For_invVF lF' ?zqk1 ?zqk2 ?_; (case zqk1 => exact rfl); (case zqk2 => exact rfl); k_whole))
  k_with "exec For Name Attribute cons nil" => (k_here; (rename Fr _ _ _ _ => lF'); (with_unfolding_all refine' For_invVF lF' ?zqk1 ?zqk2 ?_; (case zqk1 => exact rfl); (case zqk2 => exact rfl); k_whole))
  k_with "TP" => ((first | (with_reducible show Mine.TP _ _ _ _ _ _ (Flow.ret _) _) | (with_reducible show Mine.TP _ _ _ _ _ _ Flow.brk _) | (with_reducible show Mine.TP _ _ _ _ _ _ Flow.next _) | (with_reducible show Mine.TP _ _ _ _ _ _ Flow.cont _)); (dsimp only [Mine.TP]))
  k_with "compareOp Is" => (k_here; (with_reducible show wpAny _ _ (compareOp CmpOp.Is _ Value.none) _ _ _); k_dflt (first | (refine' is_eq ?zqk1 ?_; (case zqk1 => assumption); k_whole) | (refine' is_ne ?zqk1 ?_; (case zqk1 => assumption); k_whole)))
  k_with "compareOp IsNot" => (k_here; (with_reducible show wpAny _ _ (compareOp CmpOp.IsNot _ Value.none) _ _ _); k_dflt (first | (refine' isnot_eq ?zqk1 ?_; (case zqk1 => assumption); k_whole) | (refine' isnot_ne ?zqk1 ?_; (case zqk1 => assumption); k_whole)))
  exact trivial

/-! LuaError: an own exception class with an __init__ -/
set_option maxRecDepth 100000 in
set_option maxHeartbeats 8000000 in
theorem lua_facts (w : World) {h : Heap} (X : (Mine.hd.heap_1 w.params).In h) : ∃ nm q bs sn sub ab col dd k0 k1 k2 k3 k5 mN oI, h.get? 38 = some (excClassObj nm q 38 37 bs [.type "Exception", .type "BaseException", .type "object"] true sn sub ab col dd k0 k1 k2 k3 k5 "Exception.__new__") ∧ h.Ns 37 mN ∧ mN "__init__" = some (.ref 35) ∧ mN "__setattr__" = none ∧ mN "value" = none ∧ mN "trace" = none ∧ mN "is_in_handler" = none ∧ h.get? 35 = some oI ∧ oI.cls = .type "function" := by
  have fill : PySem.Challenge.rw_pq0681_01.row.prog = PySem.Challenge.rw_pq0681_01.row.prog ∧ (Mine.hd.heap_1 w.params).In h := by
    k_fill
    exact ⟨rfl, X⟩
  have c38 := X 38 _ (by k_is)
  have c37 := X 37 _ (by k_is)
  have c35 := X 35 _ (by k_is)
  refine ⟨_, _, _, _, _, _, _, _, _, _, _, _, _, _, _, c38, ⟨_, _, _, c37, rfl, ?_, fun _ => rfl⟩, rfl, rfl, rfl, rfl, rfl, c35, rfl⟩
  intro e he
  simp only [List.mem_toArray, List.mem_cons, List.not_mem_nil, or_false] at he
  rcases he with rfl | rfl | rfl | rfl | rfl | rfl <;> exact ⟨_, _, rfl⟩
/-- an exception of the class, without attributes -/
structure ExcNew (news0 nw : Led) (e : Addr) : Prop where
  there : ∃ o t, (e, o) ∈ nw ∧ o.cls = .ref 38 ∧ o.data = .fields #[.ref t, .none, .none, .none, .bool false, .none] ∧ o.dict = none
  old : ∀ p ∈ news0, p ∈ nw ∧ p.1 ≠ e
/-- an exception of the class, with the attributes mA -/
structure ExcIn (news0 nw : Led) (e : Addr) (mA : Str → Option Value) : Prop where
  there : ∃ o t d od es ep, (e, o) ∈ nw ∧ o.cls = .ref 38 ∧ o.data = .fields #[.ref t, .none, .none, .none, .bool false, .none] ∧
    o.dict = some d ∧ d ≠ e ∧ (d, od) ∈ nw ∧ (∀ p ∈ news0, p.1 ≠ d) ∧ od.data = .dict es ep ∧ StrKeys es ∧ UniqKeys es ∧ ∀ name, nsFind es name = mA name
  old : ∀ p ∈ news0, p ∈ nw ∧ p.1 ≠ e
section
variable {w : World} {A : Around} {E : Value → Shared → Prop} {s : Shared} {h₀ : Heap} {L : Addr} {m : Str → Option Value} {news0 news : Led}
theorem call_lua {v : Value} {Q : Value → Shared → Prop} (F : Fr h₀ L s.heap m) (X : (Mine.hd.heap_1 w.params).In h₀) (N : News h₀ L s.heap news)
    (h : ∀ e h' nw, Fr h₀ L h' m → News h₀ L h' nw → ExcNew news nw e →
      wpAny (model PySem.Challenge.rw_pq0681_01.row.prog w) (A.under (.builtin "type.__call__" ⟨[.ref 38, v], []⟩)) (call (.ref 35) [.ref e, v]) (fun r s' => r = .none ∧ Q (.ref e) s') E { s with heap := h' }) :
    wpAny (model PySem.Challenge.rw_pq0681_01.row.prog w) A (call (.ref 38) [v]) Q E s := by
  obtain ⟨nm, q, bs, sn, sub, ab, col, dd, k0, k1, k2, k3, k5, mN, oI, hC, hN, hi, _, _, _, _, hI, hIc⟩ := lua_facts w (X.keeps F.keep)
  obtain ⟨hh, g, d, t, os⟩ := s
  refine wpAny_call_exc_init PySem.F.excBase_Exception hC hN hi hI hIc fun h' e hm => ?_
  obtain ⟨t, he, htn, ht⟩ := hm.there
  have F' : Fr h₀ L h' m := F.keeps hm.keeps
  have fresh : ∀ b, hh.get? b = none → h₀.get? b = none ∧ b ≠ L := fun b hb => by
    constructor
    · cases hq : h₀.get? b with
      | none => rfl
      | some o => have := F.keep b o hq; rw [hb] at this; cases this
    · rintro rfl
      obtain ⟨o, _, _, ho, _⟩ := F.ns
      rw [hb] at ho; cases ho
  have hte : t ≠ e := fun hq => by rw [hq, he] at ht; cases congrArg Obj.data (Option.some.inj ht)
  refine h e h' ((e, { cls := .ref 38, data := .fields #[.ref t, .none, .none, .none, .bool false, .none] }) :: (t, { cls := .type "tuple", data := .seq [v].toArray }) :: news) F' (fun p hp => ?_) ⟨⟨_, t, .head _, rfl, rfl, rfl⟩, fun p hp => ⟨.tail _ (.tail _ hp), fun hq => ?_⟩⟩
  · rcases List.mem_cons.mp hp with rfl | hp
    · exact ⟨he, (fresh e hm.new).2, (fresh e hm.new).1⟩
    · rcases List.mem_cons.mp hp with rfl | hp
      · exact ⟨ht, (fresh t htn).2, (fresh t htn).1⟩
      · exact ⟨hm.keeps _ _ (N p hp).1, (N p hp).2⟩
  · have := (N p hp).1
    dsimp only at this
    rw [hq, hm.new] at this; cases this
end
section
variable {prog : Program} {w : World} {A : Around} {E : Value → Shared → Prop} {h : Heap} {g : Array GenState} {d : Drawn} {t : Nat} {os : OsState}
/-- the first attribute of an exception: its dict is new -/
theorem exc_first {nm q : Str} {C N0 x : Addr} {bs bm : List Value} {sn : List Str} {sub : List Value} {ab : Bool} {col : Option Bool} {dd : Option Addr} {k0 k1 k2 k3 k5 : Option Value} {B newId sa owner : String} {mN : Str → Option Value} {name : Str} {v : Value} {o : Obj} {Q : Unit → Shared → Prop}
    (SF : StoreFacts B bm sa owner) (hC : h.get? C = some (excClassObj nm q C N0 bs bm true sn sub ab col dd k0 k1 k2 k3 k5 newId)) (hn : h.Ns N0 mN) (hns : mN "__setattr__" = none) (hna : mN name = none)
    (hB : typeLookup (.type B) name = pure none) (hx : h.get? x = some o) (hc : o.cls = .ref C) (hnc : ∀ c, o.data ≠ .cls c) (hdn : o.dict = none)
    (hq : ∀ h' tk', h'.get? x = some { o with dict := some h.objs.size } → h'.Ns1 h.objs.size (fun y => if y = name then some v else none) → (∀ b ob, b ≠ x → h.get? b = some ob → h'.get? b = some ob) → Q () ⟨h', g, d, tk', os⟩) :
    wpAny (model prog w) A (setAttr (.ref x) name v) Q E ⟨h, g, d, t, os⟩ := by
  have f3 := SF.slot.bind (.ref x)
  unfold setAttr callSpecial? specialOf
  repeat (any_goals (first | assumption | (with_reducible refine wpAny_loadPart_at hx ?_; rw [hc]) | (with_reducible refine wpAny_typeLookup_exc hC hn SF.mro SF.slot.lookup ?_; rw [hns]) | wp_step))
  refine codeAny_call_builtin SF.slot.plain SF.entry (wpAny_check_sa SF hC hx hc ?_)
  have hpass := SF.passes (.ref x)
  unfold Builtin.«object.__setattr__»
  repeat (first | rw [refuse_eq] | (rw [refuseLoop_ref, hpass]) | (with_reducible refine wpAny_loadPart_at hx ?_; rw [hc]) | with_reducible refine wpAny_mroOf_exc hC ?_ | (with_reducible refine wpAny_typeLookup_exc hC hn SF.mro hB ?_; rw [hna]) | wp_step)
  rw [hdn]
  dsimp only
  rw [if_neg (by simp [typeHasDict])]
  split
  · rename_i c hcd
    exact absurd hcd (hnc c)
  · have hx₁ : (h.push { cls := .type "dict", data := .dict #[] }).get? x = some o := Heap.get?_push_of_some _ hx
    have hxs : x ≠ h.objs.size := Nat.ne_of_lt (Heap.lt_size hx)
    refine wpAny_bind (wpAny_alloc' ?_)
    refine wpAny_bind (wpAny_update' hx₁ ?_)
    refine wpAny_pure ?_
    have hgd : ((h.push { cls := .type "dict", data := .dict #[] }).update x fun o => { cls := o.cls, dict := some h.objs.size, data := o.data, slots := o.slots }).get? h.objs.size = some { cls := .type "dict", data := .dict #[] } :=
      (Heap.get?_update_ne _ _ _ _ hxs.symm).trans (Heap.get?_push_at rfl rfl)
    have hnd : ((h.push { cls := .type "dict", data := .dict #[] }).update x fun o => { cls := o.cls, dict := some h.objs.size, data := o.data, slots := o.slots }).Ns h.objs.size (fun _ => none) :=
      ⟨_, #[], _, hgd, rfl, fun e he => absurd he (by simp), fun _ => rfl⟩
    show wpAny _ _ (Builtin.ObjectAttr.storeInDict h.objs.size (.str name t) name v) _ _ _
    unfold Builtin.ObjectAttr.storeInDict Builtin.ObjectAttr.newKeyGuard
    refine wpAny_bind (wpAny_pure (wpAny_bind (wpAny_nsSet1 (Heap.Ns1.of_empty hnd) fun h' hn' hs => ?_)))
    obtain ⟨oD, esD, epD, hoD, hdD, hcD⟩ := hn'.count (Within.cons name v Within.nil)
    refine wpAny_bind (wpAny_lookBehind hoD (by rw [hdD]; exact pastItsLine_dict (Nat.le_trans hcD (by rw [List.length_cons, List.length_nil, sizeLine_eq]; omega))) ?_)
    refine wpAny_pure ?_
    show wpAny _ _ (pure (some Value.none)) _ _ _
    refine wpAny_pure ?_
    show wpAny _ _ (pure PUnit.unit) _ _ _
    refine wpAny_pure (hq h' _ ?_ hn' fun b ob hbx hb => ?_)
    · refine (hs.2 x hxs).trans (Heap.get?_update_self _ hx₁ ?_)
      have hfr := (Heap.get?_some_iff.mp hx).2
      obtain ⟨oc, od, odt, osl⟩ := o
      cases odt <;> first | rfl | exact hfr
    · exact (hs.2 b (Nat.ne_of_lt (Heap.lt_size hb))).trans ((Heap.get?_update_ne _ _ _ _ hbx).trans (Heap.get?_push_of_some _ hb))
end
section
variable {w : World} {A : Around} {E : Value → Shared → Prop} {s : Shared} {h₀ : Heap} {L : Addr} {m : Str → Option Value} {news0 news : Led}
theorem exc_ne38 {h : Heap} {e : Addr} {o : Obj} {cd : ClassData} {vs : Array Value} {c : Value} {dd : Option Addr} {sl : Array (Option Value)} (he : h.get? e = some o) (hd : o.data = .fields vs) (hC : h.get? 38 = some ⟨c, dd, .cls cd, sl⟩) : e ≠ 38 := by
  rintro rfl
  rw [he] at hC
  obtain rfl := Option.some.inj hC
  cases hd
theorem fr_keep {h h' : Heap} (F : Fr h₀ L h m) {bad : Addr → Prop} (hb : bad L → False) (hb0 : ∀ b o, h₀.get? b = some o → ¬ bad b) (hk : ∀ b o, ¬ bad b → h.get? b = some o → h'.get? b = some o) : Fr h₀ L h' m :=
  ⟨F.ns.at' fun o e => hk L o hb e, fun b o e => hk b o (hb0 b o e) (F.keep b o e), F.above⟩
/-- self.value = .. on a new exception -/
theorem exc_value {e : Addr} {v : Value} {Q : Unit → Shared → Prop} (F : Fr h₀ L s.heap m) (X : (Mine.hd.heap_1 w.params).In h₀) (N : News h₀ L s.heap news) (hE : ExcNew news0 news e)
    (h : ∀ h' tk nw, Fr h₀ L h' m → News h₀ L h' nw → ExcIn news0 nw e (fun y => if y = "value" then some v else none) → Q () { s with heap := h', toks := tk }) :
    wpAny (model PySem.Challenge.rw_pq0681_01.row.prog w) A (setAttr (.ref e) "value" v) Q E s := by
  obtain ⟨nm, q, bs, sn, sub, ab, col, dd, k0, k1, k2, k3, k5, mN, oI, hC, hN, hi, hs1, hs2, hs3, hs4, hI, hIc⟩ := lua_facts w (X.keeps F.keep)
  obtain ⟨⟨o, t, hm, hcl, hda, hdn⟩, hold⟩ := hE
  have hx := N _ hm
  obtain ⟨hh, g, d, tk, os⟩ := s
  refine exc_first PySem.F.store_Exception hC hN hs1 hs2 (by rw [typeLookup_type, builtinLookup_eq_fast]; kernel_rfl) hx.1 hcl (fun c q => by rw [hda] at q; cases q) hdn fun h' tk' he hns hk => ?_
  have hk' : ∀ b o, ¬ b = e → hh.get? b = some o → h'.get? b = some o := hk
  obtain ⟨od, es, ep, hod, hod2, hsk, huk, hfind⟩ := hns
  have fresh : h₀.get? hh.objs.size = none := none_at_size (s := ⟨hh, g, d, tk, os⟩) F
  refine h h' tk' ((e, { o with dict := some hh.objs.size }) :: (hh.objs.size, od) :: news0) (fr_keep F (bad := fun b => b = e) (fun q => hx.2.1 q.symm) (fun b o q z => by rw [z, hx.2.2] at q; cases q) hk') (fun p hp => ?_) ⟨⟨_, t, hh.objs.size, od, es, ep, .head _, hcl, hda, rfl, Nat.ne_of_gt (Heap.lt_size hx.1), .tail _ (.head _), fun p hp => Nat.ne_of_lt (Heap.lt_size (N p (hold p hp).1).1), hod2, hsk, huk, hfind⟩, fun p hp => ⟨.tail _ (.tail _ hp), (hold p hp).2⟩⟩
  rcases List.mem_cons.mp hp with rfl | hp
  · exact ⟨he, hx.2⟩
  · rcases List.mem_cons.mp hp with rfl | hp
    · exact ⟨hod, Nat.ne_of_gt F.ns.lt, fresh⟩
    · have z := N p (hold p hp).1
      exact ⟨hk' _ _ (hold p hp).2 z.1, z.2⟩
/-- a further attribute -/
theorem exc_more {e : Addr} {mA : Str → Option Value} {name : Str} {v : Value} {Q : Unit → Shared → Prop} {ns : List Str} (F : Fr h₀ L s.heap m) (X : (Mine.hd.heap_1 w.params).In h₀) (N : News h₀ L s.heap news) (hE : ExcIn news0 news e mA)
    (hna : name = "trace" ∨ name = "is_in_handler") (hw : Within mA ns) (hsz : ns.length ≤ sizeLine)
    (h : ∀ h' tk nw, Fr h₀ L h' m → News h₀ L h' nw → ExcIn news0 nw e (fun y => if y = name then some v else mA y) → Q () { s with heap := h', toks := tk }) :
    wpAny (model PySem.Challenge.rw_pq0681_01.row.prog w) A (setAttr (.ref e) name v) Q E s := by
  obtain ⟨nm, q, bs, sn, sub, ab, col, dd, k0, k1, k2, k3, k5, mN, oI, hC, hN, hi, hs1, hs2, hs3, hs4, hI, hIc⟩ := lua_facts w (X.keeps F.keep)
  obtain ⟨⟨o, t, d0, od, es, ep, hm, hcl, hda, hdi, hde, hmd, hd0, hod, hsk, huk, hfind⟩, hold⟩ := hE
  have hx := N _ hm
  have hxd := N _ hmd
  obtain ⟨hh, g, d, tk, os⟩ := s
  have hna' : mN name = none := by rcases hna with rfl | rfl <;> assumption
  have hB : typeLookup (.type "Exception") name = pure none := by rcases hna with rfl | rfl <;> (rw [typeLookup_type, builtinLookup_eq_fast]; kernel_rfl)
  have I : hh.Inst e 38 mA := ⟨o, hx.1, hcl, (fun c q => by rw [hda] at q; cases q), .inr ⟨d0, hdi, hde, od, es, ep, hxd.1, hod, hsk, huk, hfind⟩⟩
  refine store_attr PySem.F.store_Exception hC hN hs1 hna' hB (exc_ne38 hx.1 hda hC) I (fun h' tk' I' hk hsame => ?_) hw hsz
  obtain ⟨o₁, ho₁, hc₁, hda₁, _, hdi₁⟩ := hsame o hx.1
  have hdi₂ := hdi₁ d0 hdi
  obtain ⟨o₂, ho₂, _, _, hI2⟩ := I'
  obtain rfl : o₁ = o₂ := Option.some.inj (ho₁.symm.trans ho₂)
  rcases hI2 with ⟨h1, _⟩ | ⟨d1, h1, _, od', es', ep', hod', hod2', hsk', huk', hfind'⟩
  · rw [hdi₂] at h1; cases h1
  obtain rfl : d0 = d1 := Option.some.inj (hdi₂.symm.trans h1)
  have hk' : ∀ b o, ¬ (b = e ∨ b = d0) → hh.get? b = some o → h'.get? b = some o := fun b ob hb hg => hk b ob (fun q => hb (.inl q)) (fun o₀ dx q1 q2 q3 => hb (.inr (by
    obtain rfl : o = o₀ := Option.some.inj (hx.1.symm.trans q1)
    rw [q3]; exact (Option.some.inj (hdi.symm.trans q2)).symm))) hg
  refine h h' tk' ((e, o₁) :: (d0, od') :: news0) (fr_keep F (bad := fun b => b = e ∨ b = d0) (fun q => q.elim (fun q => hx.2.1 q.symm) fun q => hxd.2.1 q.symm) (fun b o q z => z.elim (fun z => by rw [z, hx.2.2] at q; cases q) fun z => by rw [z, hxd.2.2] at q; cases q) hk') (fun p hp => ?_) ⟨⟨o₁, t, d0, od', es', ep', .head _, hc₁.trans hcl, hda₁.trans hda, hdi₂, hde, .tail _ (.head _), hd0, hod2', hsk', huk', hfind'⟩, fun p hp => ⟨.tail _ (.tail _ hp), (hold p hp).2⟩⟩
  rcases List.mem_cons.mp hp with rfl | hp
  · exact ⟨ho₁, hx.2⟩
  · rcases List.mem_cons.mp hp with rfl | hp
    · exact ⟨hod', hxd.2⟩
    · have z := N p (hold p hp).1
      exact ⟨hk' _ _ (fun q => q.elim (hold p hp).2 (hd0 p hp)) z.1, z.2⟩
end

end
section
open Sem (wp)
/-! a traceback's stations, the exception's own dict kept -/
noncomputable def DictAt (h : Heap) (e : Addr) (dd : Option Addr) : Prop := ∃ oe, h.get? e = some oe ∧ oe.dict = dd
section
variable {M : Model} {A : Around} {E : Value → Shared → Prop} {s : Shared}
theorem mapFields_dict (f : Array Value → Array Value) (o : Obj) : (Obj.mapFields f o).dict = o.dict := by
  obtain ⟨c, d, dt, sl⟩ := o
  cases dt <;> rfl
theorem entryD {base : Heap} {env : Env} {outer : List Env} {L e : Addr} {oe : Obj} {vs : Array Value} {head a0 : Value} {hadNext : Bool} {Q : Unit → Shared → Prop}
    (hfr : A.frames = some (env :: outer)) (hl : s.heap.FunFrames base (env :: outer)) (hf : env.frame = some L)
    (he : s.heap.get? e = some oe) (hkb : base.StaysIn s.heap) (hen : base.get? e = none) (hd : oe.data = .fields vs) (hsz : 1 < vs.size) (h0 : vs[0]? = some a0)
    (h : ∀ h', Heap.NotedW base (env :: outer) e oe.cls a0 (rawInt L) s.heap h' → DictAt h' e oe.dict → Q () { s with heap := h' }) :
    wpAny M A (do let a ← frameOf env; let pl ← entryPlaceOf L hadNext; let b ← EntryCells.newEntry head a .none (rawInt L) .none pl; setField (.ref e) 1 b) Q E s := by
  have hene : e ∉ (env :: outer).filterMap (·.frame) := fun hm => by
    obtain ⟨_, o, ho, hnf⟩ := hl.mem hm
    rw [he] at ho; cases ho; exact hnf vs hd
  refine wpAny_bind (wpAny_frameOf_fun hfr hl hf fun h₁ hs₁ => ?_)
  refine wpAny_bind (wpAny_entryPlaceOf fun pl hpl => ?_)
  unfold EntryCells.newEntry newFields
  refine wpAny_bind (wpAny_newObj_type ?_ (hpl.sizeOk5 _ _ _ _ _))
  have he₁ : h₁.get? e = some oe := (hs₁.2.1 e hene).trans he
  have kb₁ : base.StaysIn h₁ := fun b o hbo => (hs₁.2.1 b fun hm => by rw [(hl.mem hm).1] at hbo; cases hbo).trans (hkb b o hbo)
  have he₂ := Heap.get?_push_of_some (h := h₁) { cls := .type "traceback", dict := none, data := .fields ([head, .ref L, .none, rawInt L, .none] ++ (if pl.isEmpty then List.replicate 6 Value.none else pl)).toArray } he₁
  have hTe : h₁.objs.size ≠ e := Nat.ne_of_gt (Heap.lt_size he₁)
  have hd₃ := Obj.data_mapFields hd (·.setIfInBounds 1 (Value.ref h₁.objs.size))
  have he₃ := Heap.get?_update_self (Obj.mapFields (·.setIfInBounds 1 (Value.ref h₁.objs.size))) he₂ (Obj.isFreed_of_fields hd₃)
  have hT₃ := (Heap.get?_update_other (h₁.push { cls := .type "traceback", dict := none, data := .fields ([head, .ref L, .none, rawInt L, .none] ++ (if pl.isEmpty then List.replicate 6 Value.none else pl)).toArray })
    (Obj.mapFields (·.setIfInBounds 1 (Value.ref h₁.objs.size))) (Ne.symm hTe)).trans (Heap.get?_push_size h₁ rfl)
  have keep : ∀ b o, b ≠ e → h₁.get? b = some o →
      ((h₁.push { cls := .type "traceback", dict := none, data := .fields ([head, .ref L, .none, rawInt L, .none] ++ (if pl.isEmpty then List.replicate 6 Value.none else pl)).toArray }).update e (Obj.mapFields (·.setIfInBounds 1 (Value.ref h₁.objs.size)))).get? b = some o :=
    fun b o hbe hb => (Heap.get?_update_other _ _ (Ne.symm hbe)).trans (Heap.get?_push_of_some _ hb)
  have noRecord : ∀ b o, s.heap.get? b = some o → (∀ vs, o.data ≠ .fields vs) → b ≠ e := fun b o hb hnf q => by
    rw [q, he] at hb; cases hb; exact hnf vs hd
  refine wpAny_setField he₂ hd hsz (h _ ⟨fun b o hbo => keep b o (fun q => by rw [q, hen] at hbo; cases hbo) (kb₁ b o hbo), hl.of_keeps fun b o hb hnf => ?_, ?_, fun b o hb hnf => ?_⟩ ⟨_, he₃, mapFields_dict _ _⟩)
  · obtain ⟨sl, hs⟩ := hs₁.2.2 b o hb
    exact ⟨_, keep b _ (noRecord b o hb hnf) hs, rfl⟩
  · exact ⟨_, _, h₁.objs.size, _, _, he₃, ⟨Obj.cls_mapFields _ _, by rw [Array.getElem?_setIfInBounds_ne (by decide)]; exact h0⟩, hd₃, by simp [hsz], kb₁.fresh, hTe, hT₃, rfl, by first | (simp; done) | (rcases hpl with rfl | ⟨_, _, _, _, _, _, _, rfl⟩ <;> simp)⟩
  · obtain ⟨sl, hs⟩ := hs₁.2.2 b o hb
    exact ⟨sl, keep b _ (noRecord b o hb hnf) hs⟩
theorem note_firstD {base : Heap} {env : Env} {outer : List Env} {L e : Addr} {oe : Obj} {vs : Array Value} {a0 : Value} {Q : Unit → Shared → Prop}
    (hfr : A.frames = some (env :: outer)) (hl : s.heap.FunFrames base (env :: outer)) (hf : env.frame = some L)
    (he : s.heap.get? e = some oe) (hkb : base.StaysIn s.heap) (hen : base.get? e = none) (hd : oe.data = .fields vs) (h1 : vs[1]? = some .none) (h0 : vs[0]? = some a0)
    (h : ∀ h', Heap.NotedW base (env :: outer) e oe.cls a0 (rawInt L) s.heap h' → DictAt h' e oe.dict → Q () { s with heap := h' }) : wpAny M A (noteFrame (.ref e) env) Q E s := by
  unfold noteFrame
  simp only [hf]
  refine wpAny_bind (wpAny_field he hd h1 ?_)
  rw [if_neg (by decide)]
  exact entryD hfr hl hf he hkb hen hd (Array.getElem?_eq_some_iff.mp h1).1 h0 h
theorem note_onD {base : Heap} {env : Env} {outer : List Env} {L e : Addr} {cls a0 : Value} {dd : Option Addr} {Q : Unit → Shared → Prop}
    (hfr : A.frames = some (env :: outer)) (hl : s.heap.FunFrames base (env :: outer)) (hf : env.frame = some L) (ht : s.heap.TracedW base e cls a0) (hkb : base.StaysIn s.heap) (hen : base.get? e = none) (hD : DictAt s.heap e dd)
    (h : ∀ h', Heap.NotedW base (env :: outer) e cls a0 (rawInt L) s.heap h' → DictAt h' e dd → Q () { s with heap := h' }) : wpAny M A (noteFrame (.ref e) env) Q E s := by
  obtain ⟨oe, vs, T, oT, ts, he, ⟨hcls, h0⟩, hd, h1, hnT, hTe, hT, hdT, h3⟩ := ht
  obtain ⟨oe', he', rfl⟩ := hD
  obtain rfl : oe = oe' := Option.some.inj (he.symm.trans he')
  subst hcls
  unfold noteFrame
  simp only [hf]
  refine wpAny_bind (wpAny_field he hd h1 ?_)
  rw [if_pos (show (Value.ref T != Value.none) = true from by simp)]
  refine wpAny_bind (wpAny_field hT hdT h3 ?_)
  rw [if_neg (show ¬ ((Value.none == rawInt L) = true) from by simp [rawInt])]
  refine wpAny_bind (wpAny_setField hT hdT (Array.getElem?_eq_some_iff.mp h3).1 ?_)
  have other : ∀ b, b ≠ T → (s.heap.update T (Obj.mapFields (·.setIfInBounds 3 Value.none))).get? b = s.heap.get? b := fun b hb => Heap.get?_update_other _ _ (Ne.symm hb)
  have noRecord : ∀ b o, s.heap.get? b = some o → (∀ vs, o.data ≠ .fields vs) → b ≠ T := fun b o hb hnf q => by
    rw [q, hT] at hb; cases hb; exact hnf ts hdT
  exact entryD hfr (hl.of_keeps fun b o hb hnf => ⟨o, (other b (noRecord b o hb hnf)).trans hb, rfl⟩) hf ((other e (Ne.symm hTe)).trans he)
    (fun b o hbo => (other b fun q => by rw [q, hnT] at hbo; cases hbo).trans (hkb b o hbo)) hen hd (Array.getElem?_eq_some_iff.mp h1).1 h0
    fun h' ⟨x1, x2, x3, x4⟩ hD' => h h' ⟨x1, x2, x3, fun b o hb hnf => x4 b o ((other b (noRecord b o hb hnf)).trans hb) hnf⟩ hD'
theorem flight_noneD {base : Heap} {l : List Env} {e : Addr} {cls a0 fl : Value} {dd : Option Addr} {Q : Unit → Shared → Prop}
    (hkb : base.StaysIn s.heap) (hl : s.heap.FunFrames base l) (ht : s.heap.TracedAtW base e cls a0 fl) (hD : DictAt s.heap e dd)
    (h : ∀ h', base.StaysIn h' → h'.FunFrames base l → h'.TracedW base e cls a0 → (∀ b o, s.heap.get? b = some o → (∀ vs, o.data ≠ .fields vs) → h'.get? b = some o) → DictAt h' e dd → Q () { s with heap := h' }) :
    wpAny M A (setFlight (.ref e) none) Q E s := by
  obtain ⟨oe, vs, T, oT, ts, he, hcls, hd, h1, hnT, hTe, hT, hdT, h3⟩ := ht
  have hsz3 : 3 < ts.size := (Array.getElem?_eq_some_iff.mp h3).1
  have other : ∀ b, b ≠ T → (s.heap.update T (Obj.mapFields (·.setIfInBounds 3 ((none : Option Addr).elim Value.none fun f => rawInt f)))).get? b = s.heap.get? b :=
    fun b hb => Heap.get?_update_other _ _ (Ne.symm hb)
  have noRecord : ∀ b o, s.heap.get? b = some o → (∀ vs, o.data ≠ .fields vs) → b ≠ T := fun b o hb hnf q => by
    rw [q, hT] at hb; cases hb; exact hnf ts hdT
  unfold setFlight
  refine wpAny_bind (wpAny_field he hd h1 ?_)
  rw [if_pos (show (Value.ref T != Value.none) = true from by simp)]
  obtain ⟨oe', he', hdd⟩ := hD
  refine wpAny_setField hT hdT hsz3 (h _ (fun b o hbo => (other b fun q => by rw [q, hnT] at hbo; cases hbo).trans (hkb b o hbo))
    (hl.of_keeps fun b o hb hnf => ⟨o, (other b (noRecord b o hb hnf)).trans hb, rfl⟩) ?_ (fun b o hb hnf => (other b (noRecord b o hb hnf)).trans hb) ⟨oe', (other e (Ne.symm hTe)).trans he', hdd⟩)
  exact ⟨oe, vs, T, _, _, (other e (Ne.symm hTe)).trans he, hcls, hd, h1, hnT, hTe, Heap.get?_update_self _ hT (Obj.isFreed_of_fields (Obj.data_mapFields hdT _)), Obj.data_mapFields hdT _, by simp [hsz3]⟩
end

end
section
open Sem (wp)
/-! raise, leave, catch of a LuaError with its dict -/
section
variable {w : World} {A : Around} {E : Value → Shared → Prop} {s : Shared} {env : Env}
noncomputable def RaisableL (w : World) (E : Value → Shared → Prop) (v : Value) (s₁ : Shared) : Prop :=
  ∃ e o t, v = .ref e ∧ (Mine.hd.heap_1 w.params).In s₁.heap ∧ s₁.heap.get? e = some o ∧ o.cls = .ref 38 ∧ o.data = .fields #[.ref t, .none, .none, .none, .bool false, .none] ∧ E (.ref e) s₁
theorem raise_L {e : Expr} {pos : Pos} {Q : Flow → Shared → Prop} (hh : A.handled = none)
    (h : wpAny (model PySem.Challenge.rw_pq0681_01.row.prog w) A (eval e env) (RaisableL w E) E s) : wpAny (model PySem.Challenge.rw_pq0681_01.row.prog w) A (exec (.Raise (some e) none pos) env) Q E s := by
  show wpAny _ A (do standAt pos; raiseStmt env (some (do let v ← eval e env; standAt pos; pure v)) none) Q E s
  refine wpAny_bind (wpAny_standAt ?_)
  unfold raiseStmt
  dsimp only
  refine wpAny_bind (wpAny_bind (wpAny_mono h (fun v s₁ h₁ => wpAny_bind (wpAny_standAt (wpAny_pure ?_))) fun _ _ x => x))
  obtain ⟨e, o, t, rfl, X, he, hcl, hda, hE⟩ := h₁
  obtain ⟨nm, q, bs, sn, sub, ab, col, dd, k0, k1, k2, k3, k5, mN, oI, hC, _⟩ := lua_facts w X
  have hcB : (Value.ref 38 :: [.ref 38, .type "Exception", .type "BaseException", .type "object"]).contains (.type "BaseException") = true := by decide
  obtain ⟨hp, g, d, tk, os⟩ := s₁
  obtain ⟨oc, od, odt, osl⟩ := o
  dsimp only at hcl hda
  subst hcl hda
  repeat (first | with_reducible refine wpAny_loadPart_at he ?_ | with_reducible refine wpAny_loadPart_at hC ?_ | (with_reducible refine wpAny_isSubtype_exc hC ?_; rw [show (Value.ref 38 :: [Value.type "Exception", .type "BaseException", .type "object"]).contains (.type "BaseException") = true from by decide]) | wp_step)
  exact wpAny_raiseNew_none hh hE
end
/-- an exception on its way, its dict in the ledger -/
noncomputable def RaisedD (base G : Heap) (l : List Env) (e : Addr) (mA : Str → Option Value) (news : Led) (h : Heap) : Prop :=
  ∃ B d od es ep a0, base.StaysIn B ∧ (∀ b o, G.get? b = some o → b ∉ l.filterMap (·.frame) → B.get? b = some o) ∧ (∀ q ∈ (d, od) :: news, B.get? q.1 = some q.2 ∧ G.get? q.1 = none ∧ base.get? q.1 = none) ∧
    Heap.FlyingW B l e (.ref 38) a0 h ∧ DictAt h e (some d) ∧ d ≠ e ∧ od.data = .dict es ep ∧ StrKeys es ∧ UniqKeys es ∧ (∀ name, nsFind es name = mA name)
/-- a caught exception -/
noncomputable def Caught (nw : Led) (e : Addr) (mA : Str → Option Value) : Prop :=
  ∃ oe ws d od es ep, (e, oe) ∈ nw ∧ oe.cls = .ref 38 ∧ oe.data = .fields ws ∧ oe.dict = some d ∧ (d, od) ∈ nw ∧ od.data = .dict es ep ∧ StrKeys es ∧ UniqKeys es ∧ (∀ name, nsFind es name = mA name)
section
variable {M : Model} {A : Around} {E : Value → Shared → Prop} {s' : Shared} {base g : Heap} {outer : List Env} {L a e : Addr} {m mA : Str → Option Value} {name : Str} {scope : Scope} {cd : Value} {Q : Unit → Shared → Prop} {news0 nw : Led}
theorem leave_raiseD (K : Below A base outer g) (F : Fr g L s'.heap m) (N : News g L s'.heap nw) (hE : ExcIn news0 nw e mA)
    (hQ : ∀ h', RaisedD base g outer e mA news0 h' → g.UpToSlots h' → Q () { s' with heap := h' }) (hk : scope.kind = .function := by rfl) :
    wpAny M (A.deeper (envOf name scope L a cd)) (leaving (envOf name scope L a cd) (.ref e)) Q E s' := by
  obtain ⟨⟨o, t, d, od, es, ep, hm, hcl, hda, hdi, hde, hmd, hd0, hod, hsk, huk, hfind⟩, hold⟩ := hE
  have hx := N _ hm
  have hxd := N _ hmd
  have K' := K.push (name := name) (a := a) (cd := cd) F hk
  have hin : ∀ env ∈ (envOf name scope L a cd :: outer), ∀ b, env.frame = some b → b ∈ e :: (envOf name scope L a cd :: outer).filterMap (·.frame) := fun env he b hb => .tail _ (List.mem_filterMap.mpr ⟨env, he, hb⟩)
  have notf : ∀ q ∈ nw, q.1 ∉ (envOf name scope L a cd :: outer).filterMap (·.frame) := fun q hq hm => by
    obtain ⟨env, he, hf⟩ := List.mem_filterMap.mp hm
    rcases List.mem_cons.mp he with rfl | he
    · exact (N q hq).2.1 (Option.some.inj hf).symm
    · obtain ⟨o, ho, _⟩ := (K.frames.mem (List.mem_filterMap.mpr ⟨env, he, hf⟩)).2
      rw [(N q hq).2.2] at ho; cases ho
  have hbe : base.get? e = none := fresh_of_stays K.stays hx.2.2
  have st : base.StaysIn (hideAll s'.heap (e :: (envOf name scope L a cd :: outer).filterMap (·.frame))) := fun b o q => hideAll_get _ (K'.stays b o q) fun hm => by
    rcases List.mem_cons.mp hm with rfl | hm
    · rw [hbe] at q; cases q
    · rw [(K'.frames.mem hm).1] at q; cases q
  have sg : ∀ b o, g.get? b = some o → b ∉ outer.filterMap (·.frame) → (hideAll s'.heap (e :: (envOf name scope L a cd :: outer).filterMap (·.frame))).get? b = some o := fun b o q nm => hideAll_get _ (F.keep b o q) fun hm => by
    rcases List.mem_cons.mp hm with rfl | hm
    · rw [hx.2.2] at q; cases q
    · rcases kts_mem hm with z | z
      · rw [z, kts_self F] at q
        cases q
      · exact nm z
  have hl : ∀ q ∈ (d, od) :: news0, (hideAll s'.heap (e :: (envOf name scope L a cd :: outer).filterMap (·.frame))).get? q.1 = some q.2 ∧ g.get? q.1 = none ∧ base.get? q.1 = none := fun q hq => by
    have hq' : q ∈ nw ∧ q.1 ≠ e := by
      rcases List.mem_cons.mp hq with rfl | hq
      · exact ⟨hmd, hde⟩
      · exact hold q hq
    refine ⟨hideAll_get _ (N q hq'.1).1 fun hm => ?_, (N q hq'.1).2.2, fresh_of_stays K.stays (N q hq'.1).2.2⟩
    rcases List.mem_cons.mp hm with z | hm
    · exact hq'.2 z
    · exact notf q hq'.1 hm
  have hkb : (hideAll s'.heap (e :: (envOf name scope L a cd :: outer).filterMap (·.frame))).StaysIn s'.heap := fun b o q => of_hideAll _ q
  have hen : (hideAll s'.heap (e :: (envOf name scope L a cd :: outer).filterMap (·.frame))).get? e = none := hideAll_none _ (.head _)
  unfold leaving
  refine wpAny_bind (note_firstD (a0 := .ref t) K'.stack (funFrames_hide K'.frames hin) rfl hx.1 hkb hen hda rfl rfl fun h₁ hN hD => ?_)
  obtain ⟨k1, k2, k3, k4⟩ := hN
  rw [hcl] at k3
  rw [hdi] at hD
  refine flight_noneD k1 k2 k3 hD fun h₂ j1 j2 j3 j4 hD₂ => ?_
  obtain ⟨_, _, j2⟩ := j2
  refine hQ h₂ ⟨_, d, od, es, ep, .ref t, st, sg, hl, ⟨j1, hen, j2, j3⟩, hD₂, hde, hod, hsk, huk, hfind⟩ (((Heap.UpToSlots.of_keeps F.keep).trans k4).trans fun b o hb hnf => ⟨o.slots, j4 b o hb hnf⟩)
end
section
variable {w : World} {A₀ : Around} {E : Value → Shared → Prop} {s' : Shared} {base g g₀ G : Heap} {outer : List Env} {L a e : Addr} {m mA : Str → Option Value} {name : Str} {scope : Scope} {cd : Value}
  {n : Str} {b₀ : Stmt} {suite : List Stmt} {pos np : Pos} {rest : List ExceptHandler} {Q : Flow → Shared → Prop} {news : Led} {KF : Frag}
  {p : Program} {loose : List Str} {mean : ExcName → Option Value} {mg mb : Str → Option Value} {x : Str} {prog : Program}
theorem caught_D (R : RaisedD base G (envOf name scope L a cd :: outer) e mA news s'.heap) (F : Fr g L G m) (K : Below A₀ base outer g) (hsm : G.UpToSlots s'.heap) (XB : KF.In base) (TB : Top p loose mean mg mb base)
    (D : KtsDicts (outer.filterMap (·.frame)) g) (T0 : KtsTurn (outer.filterMap (·.frame)) g₀ g)
    (ex : nsIn KF mainGlobals x = some (some (.ref 38))) (q : ktsIn KF 38 "BaseException" = true)
    (k : ∀ h' g' nw tk, KtsTurn (outer.filterMap (·.frame)) g₀ g' → Fr g' L h' (fun y => if y = n then some (.ref e) else m y) → News g' L h' nw → Caught nw e mA → (∀ q ∈ news, q ∈ nw) → Below A₀ base outer g' → KF.In g' → Top p loose mean mg mb g' → KtsDicts (outer.filterMap (·.frame)) g' →
      wpAny (model prog w) ((A₀.deeper (envOf name scope L a cd)).mark (some (.ref e))) (execs (b₀ :: suite) (envOf name scope L a cd))
        (fun f s₄ => wpAny (model prog w) (A₀.deeper (envOf name scope L a cd)) (do bindName (envOf name scope L a cd) n .none; unbindBehindTheSuite (envOf name scope L a cd) n pos) (fun _ s₅ => Q f s₅) E s₄)
        (AsSuiteRaised (model prog w) ((A₀.deeper (envOf name scope L a cd)).mark (some (.ref e))) (envOf name scope L a cd) n pos (notedBy (model prog w) ((A₀.deeper (envOf name scope L a cd)).mark (some (.ref e))) (envOf name scope L a cd) (cameBackBy (model prog w) (A₀.deeper (envOf name scope L a cd)) (envOf name scope L a cd) E)))
        { s' with heap := h', toks := tk })
    (hk : scope.kind = .function := by rfl) (hlo : (envOf name scope L a cd).kindOf n = some .local := by rfl) (hx : (envOf name scope L a cd).kindOf x = some .globalImplicit := by rfl) (hd : (x == ("__debug__" : Str)) = false := by decide) :
    wpAny (model prog w) (A₀.deeper (envOf name scope L a cd)) (noteFrame (.ref e) (envOf name scope L a cd))
      (fun _ s₂ => wpAny (model prog w) (A₀.deeper (envOf name scope L a cd)) (setFlight (.ref e) none) (fun _ s₃ =>
        wpAny (model prog w) (A₀.deeper (envOf name scope L a cd)) (handleBy (.ref e) (envOf name scope L a cd) (.ExceptHandler (some (.Name x np)) (some n) (b₀ :: suite) pos :: rest)) Q E s₃) E s₂) E s' := by
  obtain ⟨B, d, od, es, ep, a0, hB, hBG, hl, hfl, hD, hde, hod, hsk, huk, hfind⟩ := R
  have hL : B.get? L = none := by
    obtain ⟨_, ⟨L', _, hf, hn', _⟩, _⟩ := hfl.2.2.1
    obtain rfl : L = L' := Option.some.inj hf
    exact hn'
  obtain ⟨f1, f2, f3, f4⟩ := hfl
  refine note_onD (Around.frames_deeper K.stack) f3 rfl f4 f1 f2 hD fun h₄ hN₄ hD₄ => ?_
  obtain ⟨i1, i2, i3, i4⟩ := hN₄
  refine flight_noneD i1 i2 i3 hD₄ fun h₅ j1 j2 j3 j4 hD₅ => ?_
  have hsm₅ : s'.heap.UpToSlots h₅ := Heap.UpToSlots.trans i4 fun b o hb hnf => ⟨o.slots, j4 b o hb hnf⟩
  have hheld : Heap.FlyingW B (envOf name scope L a cd :: outer) e (.ref 38) a0 h₅ := ⟨j1, f2, j2, j3⟩
  obtain ⟨g₅, T₅, F₅, K₅⟩ := kts_ground K F hBG hheld.1 (hsm.trans hsm₅)
  have X₅ : KF.In g₅ := XB.keeps K₅.stays
  have P₅ : TopRead p loose mg mb g₅ := topRead_of (TB.keeps K₅.stays)
  obtain ⟨ob, hob, hobc⟩ := hheld.there
  obtain ⟨nm, q', N, bs, bm, hdct, sn, sub, ab, col, dd, k0, k1, k2, k3, k5, newId, hC, hbase, hbT⟩ := kts_cls X₅ q
  have hC₅ := F₅.keep _ _ hC
  refine wpAny_handleBy_cons (codeAny_handlers_test (name_K F₅ X₅ P₅ ex ?_ hk hx hd)) (by intro q; cases q)
  refine wpAny_excMatches_sub_self hC₅ hob hobc hbase (codeAny_handlers_suite_as ?_)
  refine flight_noneD j1 j2 j3.at hD₅ fun h₆ l1 l2 l3 l4 hD₆ => ?_
  have hsm₆ : h₅.UpToSlots h₆ := fun b o hb hnf => ⟨o.slots, l4 b o hb hnf⟩
  obtain ⟨g₆, T₆, F₆, K₆⟩ := kts_ground K F hBG l1 ((hsm.trans hsm₅).trans hsm₆)
  obtain ⟨oe, ws, hoe, hoec, hoed, hoe0⟩ := (show Heap.FlyingW B (envOf name scope L a cd :: outer) e (.ref 38) a0 h₆ from ⟨l1, f2, l2, l3⟩).first
  obtain ⟨oe', hoe', hoedi⟩ := hD₆
  obtain rfl : oe = oe' := Option.some.inj (hoe.symm.trans hoe')
  have ne₆ : g₆.get? e = none := T₆.none_ _ (kts_fresh F hBG f2 fun o ho m => by
    obtain ⟨_, o', ho', hd⟩ := K.frames.mem m
    rw [ho] at ho'
    cases ho'
    obtain ⟨sl, hs⟩ := ((hsm.trans hsm₅).trans hsm₆) _ _ (F.keep _ _ ho) hd
    rw [hoe] at hs
    cases hs
    exact hd _ hoed)
  have Nl : News g₆ L h₆ ((d, od) :: news) := fun q hq => ⟨l1 _ _ (hl q hq).1, (fun z => by have := (hl q hq).1; rw [z, hL] at this; cases this), T₆.none_ _ (kts_none F.keep (hl q hq).2.1)⟩
  have N₆ := News.more F₆ Nl hoe (fun es n q => by rw [hoed] at q; cases q) ne₆
  have X₆ : KF.In g₆ := XB.keeps K₆.stays
  have P₆ : Top p loose mean mg mb g₆ := TB.keeps K₆.stays
  have D₆ : KtsDicts (outer.filterMap (·.frame)) g₆ := D.turn T₆
  refine stN F₆ N₆ (fun h₇ F₇ N₇ => ?_) hk hlo
  exact k h₇ g₆ _ _ (T0.trans T₆) F₇ N₇ ⟨oe, ws, d, od, es, ep, .head _, hoec, hoed, hoedi, .tail _ (.head _), hod, hsk, huk, hfind⟩ (fun q hq => .tail _ (.tail _ hq)) K₆ X₆ P₆ D₆
end

end
section
open Sem (wp)
/-! an attribute of a caught LuaError, from its dict -/
set_option maxRecDepth 100000 in
set_option maxHeartbeats 8000000 in
theorem lua_facts2 (w : World) {h : Heap} (X : (Mine.hd.heap_1 w.params).In h) : ∃ nm q bs sn sub ab col dd k0 k1 k2 k3 k5 mN, h.get? 38 = some (excClassObj nm q 38 37 bs [.type "Exception", .type "BaseException", .type "object"] true sn sub ab col dd k0 k1 k2 k3 k5 "Exception.__new__") ∧ h.Ns 37 mN ∧ mN "__getattribute__" = none ∧ mN "__getattr__" = none ∧ mN "value" = none := by
  have fill : PySem.Challenge.rw_pq0681_01.row.prog = PySem.Challenge.rw_pq0681_01.row.prog ∧ (Mine.hd.heap_1 w.params).In h := by
    k_fill
    exact ⟨rfl, X⟩
  have c38 := X 38 _ (by k_is)
  have c37 := X 37 _ (by k_is)
  refine ⟨_, _, _, _, _, _, _, _, _, _, _, _, _, _, c38, ⟨_, _, _, c37, rfl, ?_, fun _ => rfl⟩, rfl, rfl, rfl⟩
  intro e he
  simp only [List.mem_toArray, List.mem_cons, List.not_mem_nil, or_false] at he
  rcases he with rfl | rfl | rfl | rfl | rfl | rfl <;> exact ⟨_, _, rfl⟩
section
variable {prog : Program} {w : World} {A : Around} {E : Value → Shared → Prop} {h : Heap} {g : Array GenState} {d : Drawn} {t : Nat} {os : OsState} {x : Addr} {o od : Obj}
  {nm q : Str} {C N d0 : Addr} {bs bm : List Value} {sn : List Str} {sub : List Value} {ab : Bool} {col : Option Bool} {dd : Option Addr} {k0 k1 k2 k3 k5 : Option Value} {B newId : String} {mN mA : Str → Option Value} {name : Str} {v : Value} {vs : Array Value}
theorem check_ga {M : Model} {nameV : Value} {Q : Unit → Shared → Prop} (FB : ExcAttrBase B bm) (hC : h.get? C = some (excClassObj nm q C N bs bm true sn sub ab col dd k0 k1 k2 k3 k5 newId))
    (hx : h.get? x = some o) (hc : o.cls = .ref C) (hq : Q () ⟨h, g, d, t, os⟩) : wpAny M A (checkBuiltinCall "BaseException.__getattribute__" ⟨[.ref x, nameV], []⟩) Q E ⟨h, g, d, t, os⟩ := by
  have hk : builtinKind "BaseException.__getattribute__" = some .slot := by decide +kernel
  have hsplit : splitId "BaseException.__getattribute__" = some ("BaseException", "__getattribute__") := by decide +kernel
  have hcB : (Value.ref C :: bm).contains (.type "BaseException") = true := by rw [List.contains_cons, FB.hasBase]; exact Bool.or_true _
  have ha := F.args_bexc_ga (.ref x) nameV
  simp only [checkBuiltinCall, hk, hsplit]
  refine wpAny_bind ?_
  · unfold isInstance
    repeat (first | (with_reducible refine wpAny_loadPart_at hx ?_; rw [hc]) | (with_reducible refine wpAny_isSubtype_exc hC ?_; rw [hcB]) | wp_step)
    exact hq
theorem exc_entry {tk : Tok} {Q : Fin → Shared → Prop} (FB : ExcAttrBase B bm) (hC : h.get? C = some (excClassObj nm q C N bs bm true sn sub ab col dd k0 k1 k2 k3 k5 newId)) (hN : h.Ns N mN)
    (hna : mN name = none) (hB : typeLookup (.type B) name = pure none) (hx : h.get? x = some o) (hc : o.cls = .ref C) (hd : o.data = .fields vs) (hdi : o.dict = some d0) (hns : h.Ns d0 mA) (hv : mA name = some v)
    (hq : Q (.done (.ret v)) ⟨h, g, d, t, os⟩) :
    wpAny (model prog w) A (Builtin.«object.__getattribute__» ⟨[.ref x, .str name tk], []⟩) Q E ⟨h, g, d, t, os⟩ := by
  unfold Builtin.«object.__getattribute__»
  repeat (first | (with_reducible refine wpAny_loadPart_at hx ?_; rw [hc]) | (with_reducible refine wpAny_typeLookup_exc hC hN FB.mro hB ?_; rw [hna]) | wp_step)
  split
  · rename_i c hcd
    rw [hd] at hcd; cases hcd
  unfold instanceDict
  repeat (first | (with_reducible refine wpAny_loadPart_at hx ?_; rw [hc]) | with_reducible refine wpAny_loadPart_at hC ?_ | wp_step)
  rw [hdi]
  repeat (first | (with_reducible refine wpAny_nsGet hns ?_; rw [hv]) | wp_step)
  exact hq
theorem exc_attr {expr : Bool} {Q : Value → Shared → Prop} (FB : ExcAttrBase B bm) (hC : h.get? C = some (excClassObj nm q C N bs bm true sn sub ab col dd k0 k1 k2 k3 k5 newId)) (hN : h.Ns N mN)
    (hng : mN "__getattribute__" = none) (hnh : mN "__getattr__" = none) (hna : mN name = none) (hB : typeLookup (.type B) name = pure none) (hx : h.get? x = some o) (hc : o.cls = .ref C) (hd : o.data = .fields vs) (hdi : o.dict = some d0) (hns : h.Ns d0 mA) (hv : mA name = some v)
    (hh : handedOut v = pure v) (hq : Q v ⟨h, g, d, t + 1, os⟩) : wpAny (model prog w) A (getAttr (.ref x) name expr) Q E ⟨h, g, d, t, os⟩ := by
  have f3 := FB.ga.bind (.ref x)
  have hx0 : (expr && onTheHeap (Value.builtin "BaseException.__getattribute__")) = false := by cases expr <;> rfl
  have hx2 : (Value.builtin "BaseException.__getattribute__" == Value.builtin "object.__getattribute__") = false := by decide +kernel
  have hx1 : (onTheHeap (Value.ref C) && Value.builtin "BaseException.__getattribute__" == Value.builtin "object.__getattribute__") = false := by rw [hx2]; rfl
  unfold getAttr
  repeat (any_goals (first | assumption | (with_reducible refine wpAny_loadPart_at hx ?_; rw [hc]) | (with_reducible refine wpAny_typeLookup_exc hC hN FB.mro FB.ga.lookup ?_; rw [hng]) | (with_reducible refine wpAny_typeLookup_exc hC hN FB.mro FB.noGetattr ?_; rw [hnh]) | wp_step))
  refine codeAny_call_builtin FB.ga.plain F.entry_bexc_ga (check_ga FB hC hx hc (exc_entry FB hC hN hna hB hx hc hd hdi hns hv ?_))
  repeat (any_goals (first | assumption | wp_step))
end
theorem caught_get {w : World} {A : Around} {E : Value → Shared → Prop} {s : Shared} {h₀ : Heap} {L e : Addr} {m mA : Str → Option Value} {nw : Led} {Q : Value → Shared → Prop} {expr : Bool} {v : Value} (F : Fr h₀ L s.heap m) (X : (Mine.hd.heap_1 w.params).In h₀) (N : News h₀ L s.heap nw) (hC : Caught nw e mA)
    (hv : mA "value" = some v) (hh : handedOut v = pure v) (h : ∀ tk, Q v { s with toks := tk }) :
    wpAny (model PySem.Challenge.rw_pq0681_01.row.prog w) A (getAttr (.ref e) (Str.ofString "value") expr) Q E s := by
  obtain ⟨oe, ws, d, od, es, ep, he, hcl, hda, hdi, hd, hod, hsk, huk, hfind⟩ := hC
  obtain ⟨nm, q, bs, sn, sub, ab, col, dd, k0, k1, k2, k3, k5, mN, hK, hN, g1, g2, g3⟩ := lua_facts2 w (X.keeps F.keep)
  obtain ⟨hp, gs, dr, tk, os⟩ := s
  exact exc_attr PySem.F.attrBase_Exception hK hN g1 g2 g3 (by rw [typeLookup_type, builtinLookup_eq_fast]; kernel_rfl) (N _ he).1 hcl hda hdi ⟨od, es, ep, (N _ hd).1, hod, hsk, hfind⟩ hv hh (h _)

end
section
theorem wd_P30_0 : True := by
  k_with_none
  exact trivial
theorem wd_P30_58 : True := by
  k_with "KD" => first | exact dlt (by assumption) (by first | decide | omega) | exact dlt1 (by assumption) (by first | decide | omega) | exact dlt0 (by assumption) | ktr_room
  k_with "KU" => first | exact ult (by assumption) (by first | decide | omega) | ktr_units
  k_with "ENTER" => (refine' enter_ ?zqk1 ?zqk2 ?zqk3 ?zqk4 ?zqk5 ?zqkA ?zqkF ?zqkK ?zqk6 ?zqk7 ?zqk8 ?zqk9 ?zqkB ?_ ?zqc2 ?zqc3 ?zqc4 ?zqc5; (case zqkA => exact rfl); (case zqkF => exact rfl); (case zqkK => first | exact rfl | assumption); (case zqk1 => k_asm); (case zqk2 => k_asm); (case zqk3 => k_asm); (case zqk4 => k_asm); (case zqk5 => k_asm); (case zqk6 => k_is); (case zqk7 => k_is); (case zqk8 => walk_at "KD"); (case zqk9 => first | exact BindsTo.of_eq rfl | exact binds_K (by k_in) rfl (by k_is) rfl rfl rfl | fail "ENTER: no rule for these arguments"); (case zqc5 => decide); (case zqkB => exact locs rfl); (case zqc2 => exact rfl); (case zqc3 => exact rfl); (case zqc4 => exact rfl); k_whole; intro g' L' h' tk' FG' mm F' N' B' X' T' qk ek)
  k_with "call ref" => (k_here; k_dflt (first | (refine' call_cls0 ?zqk1 ?zqk2 ?zqk3 ?zqk4 ?zqk5 ?_; (case zqk1 => k_asm); (case zqk2 => k_asm); (case zqk3 => k_asm); (case zqk4 => k_is); (case zqk5 => k_is); k_whole; intro x' d' h' F' N' l1 l2; (try k_lt l1); (try k_lt2 l2); (try k_sweep)) | (refine' call_cls ?zqk1 ?zqk2 ?zqk3 ?zqk4 ?zqk5 ?zqk6 ?_; (case zqk1 => k_asm); (case zqk2 => k_asm); (case zqk3 => k_asm); (case zqk4 => k_is); (case zqk5 => k_is); (case zqk6 => k_is); k_whole; intro x' d' h' F' N' l1 l2; (try k_lt l1); (try k_lt2 l2); (try k_sweep); walk_at "ENTER") | (refine' call_meth ?zqk1 ?zqk2 ?_; (case zqk1 => k_asm); (case zqk2 => k_mem); k_whole; walk_at "ENTER") | (refine wpAny_call ?_; walk_at "ENTER")))
  k_with "call builtin:len" => (k_here; (with_reducible show wpAny _ _ (call (Value.builtin "len") [Value.ref _]) _ _ _); k_dflt (refine' kst_len ?zqk1 ?zqk2 ?zqk3 ?zqk4 ?_; (case zqk1 => k_asm); (case zqk2 => k_mem); (case zqk3 => first | assumption | exact rfl); (case zqk4 => omega); k_whole))
  k_with "WhileStep2" => (first | (with_reducible show WhileStep2 _ _ _ _ _ _ (Flow.ret _) _) | (with_reducible show WhileStep2 _ _ _ _ _ _ Flow.brk _)); (dsimp only [WhileStep2])
  k_with "execs cons" => (k_here; refine wpAny_execs_cons (foldQ ?_); intro qs)
  k_with "storeName" => (k_here; (try dsimp only); k_dflt (refine' store_ ?zqF ?zqN ?_ ?zqa ?zqb; (case zqF => k_asm); (case zqN => k_asm); (case zqa => first | exact rfl | assumption); (case zqb => rfl); k_whole; intro h' tk' mm F' N'; (try k_sweep)))
  k_with "exec While Compare cons nil" => refine Halt.go ?_
  k_with "pyIter ref" => refine Halt.go ?_
  k_with "call type:enumerate" => refine Halt.go ?_
  k_with "KswEnd" => refine Halt.at (k := "KswEnd") (by assumption) ?_
  k_with "subscriptTail" => refine Halt.at (k := "subscriptTail") (by assumption) ?_
  k_with "eval ListComp" => refine Halt.at (k := "eval ListComp") (by assumption) ?_
  k_with "CompSrc" => refine Halt.at (k := "CompSrc") (by assumption) ?_
  k_with "CompEnd" => refine Halt.at (k := "CompEnd") (by assumption) ?_
  k_with "call ref" => refine Halt.at (k := "call ref") (by assumption) ?_
  k_with "call builtin:sorted" => refine Halt.at (k := "call builtin:sorted") (by assumption) ?_
  k_with "call builtin:repr" => refine Halt.at (k := "call builtin:repr") (by assumption) ?_
  k_with "unpackItems ref" => refine Halt.at (k := "unpackItems ref") (by assumption) ?_
  k_with "compareOp Eq ref ref" => refine Halt.at (k := "compareOp Eq ref ref") (by assumption) ?_
  k_with "call type:str" => refine Halt.at (k := "call type:str") (by assumption) ?_
  k_with "K4" => ((case zqk1 => k_asm); (case zqk2 => k_asm); (case zqk3 => k_asm); (case zqk4 => k_asm))
  k_with "K56" => ((case zqk5 => first | assumption | (with_unfolding_all assumption)); (case zqk6 => first | assumption | (with_unfolding_all assumption)))
  k_with "KN" => (k_whole; intro h' tj' n' F' N' hT' hK'; (try dsimp only); (try k_sweep))
  k_with "getAttr ref" => (k_here; (with_reducible show wpAny _ _ (getAttr (Value.ref _) (PySem.Str.ofString "free") _) _ _ _); k_dflt (refine' get_free ?zqk1 ?zqk2 ?zqk3 ?zqk4 ?_; walk_at "K4"; k_whole; intro tk' tj'; (try dsimp only)))
  k_with "getAttr ref" => (k_here; (with_reducible show wpAny _ _ (getAttr (Value.ref _) (PySem.Str.ofString "size") _) _ _ _); k_dflt (refine' get_size ?zqk1 ?zqk2 ?zqk3 ?zqk4 ?_; walk_at "K4"; k_whole; intro tk' tj'; (try dsimp only)))
  k_with "getAttr ref" => (k_here; (with_reducible show wpAny _ _ (getAttr (Value.ref _) (PySem.Str.ofString "array") _) _ _ _); k_dflt (refine' get_array ?zqk1 ?zqk2 ?zqk3 ?zqk4 ?_; walk_at "K4"; k_whole; intro tj'; (try dsimp only)))
  k_with "getAttr ref" => (k_here; (with_reducible show wpAny _ _ (getAttr (Value.ref _) (PySem.Str.ofString "nodes") _) _ _ _); k_dflt (refine' get_nodes ?zqk1 ?zqk2 ?zqk3 ?zqk4 ?_; walk_at "K4"; k_whole; intro tj'; (try dsimp only)))
  k_with "getAttr ref" => (k_here; (with_reducible show wpAny _ _ (getAttr (Value.ref _) (PySem.Str.ofString "key") _) _ _ _); k_dflt (first | (refine' get_key_none ?zqk1 ?zqk2 ?zqk3 ?zqk4 ?zqk5 ?zqk6 ?zqk7 ?_; walk_at "K4"; walk_at "K56"; (case zqk7 => assumption); k_whole; intro tj'; (try dsimp only)) | (refine' get_key_some ?zqk1 ?zqk2 ?zqk3 ?zqk4 ?zqk5 ?zqk6 ?zqk7 ?_; walk_at "K4"; walk_at "K56"; (case zqk7 => assumption); k_whole; intro kv' tj' hkv'; (try dsimp only)) | (refine' get_key_any ?zqk1 ?zqk2 ?zqk3 ?zqk4 ?zqk5 ?zqk6 ?_; walk_at "K4"; walk_at "K56"; k_whole; intro kv' tj' hkv'; (try dsimp only))))
  k_with "getAttr ref" => (k_here; (with_reducible show wpAny _ _ (getAttr (Value.ref _) (PySem.Str.ofString "value") _) _ _ _); k_dflt (refine' get_value ?zqk1 ?zqk2 ?zqk3 ?zqk4 ?zqk5 ?zqk6 ?_; walk_at "K4"; walk_at "K56"; k_whole; intro tj'; (try dsimp only)))
  k_with "getAttr ref" => (k_here; (with_reducible show wpAny _ _ (getAttr (Value.ref _) (PySem.Str.ofString "next") _) _ _ _); k_dflt (refine' get_next ?zqk1 ?zqk2 ?zqk3 ?zqk4 ?zqk5 ?zqk6 ?_; walk_at "K4"; walk_at "K56"; k_whole; intro tk' tj'; (try dsimp only)))
  k_with "setAttr ref" => (k_here; (with_reducible show wpAny _ _ (setAttr (Value.ref _) (PySem.Str.ofString "free") _) _ _ _); k_dflt (refine' set_free ?zqk1 ?zqk2 ?zqk3 ?zqk4 ?_; walk_at "K4"; walk_at "KN"))
  k_with "setAttr ref" => (k_here; (with_reducible show wpAny _ _ (setAttr (Value.ref _) (PySem.Str.ofString "size") _) _ _ _); k_dflt (refine' set_size ?zqk1 ?zqk2 ?zqk3 ?zqk4 ?_; walk_at "K4"; walk_at "KN"))
  k_with "setAttr ref" => (k_here; (with_reducible show wpAny _ _ (setAttr (Value.ref _) (PySem.Str.ofString "flags") _) _ _ _); k_dflt (refine' set_flags ?zqk1 ?zqk2 ?zqk3 ?zqk4 ?_; walk_at "K4"; walk_at "KN"))
  k_with "setAttr ref" => (k_here; (with_reducible show wpAny _ _ (setAttr (Value.ref _) (PySem.Str.ofString "log_nodes") _) _ _ _); k_dflt (refine' set_log_nodes ?zqk1 ?zqk2 ?zqk3 ?zqk4 ?_; walk_at "K4"; walk_at "KN"))
  k_with "setAttr ref" => (k_here; (with_reducible show wpAny _ _ (setAttr (Value.ref _) (PySem.Str.ofString "key") _) _ _ _); k_dflt (refine' set_key ?zqk1 ?zqk2 ?zqk3 ?zqk4 ?zqk5 ?zqk6 ?zqk7 ?_; walk_at "K4"; walk_at "K56"; (case zqk7 => first | assumption | exact KV.none); walk_at "KN"))
  k_with "setAttr ref" => (k_here; (with_reducible show wpAny _ _ (setAttr (Value.ref _) (PySem.Str.ofString "value") _) _ _ _); k_dflt (refine' set_value ?zqk1 ?zqk2 ?zqk3 ?zqk4 ?zqk5 ?zqk6 ?zqk7 ?_; walk_at "K4"; walk_at "K56"; (case zqk7 => first | assumption | rfl); walk_at "KN"))
  k_with "setAttr ref" => (k_here; (with_reducible show wpAny _ _ (setAttr (Value.ref _) (PySem.Str.ofString "next") _) _ _ _); k_dflt (refine' set_next ?zqk1 ?zqk2 ?zqk3 ?zqk4 ?zqk5 ?zqk6 ?_; walk_at "K4"; walk_at "K56"; walk_at "KN"))
  k_with "getMethod ref" => (k_here; (with_reducible show wpAny _ _ (getMethod (Value.ref _) _ _) _ _ _); k_dflt (refine' tab_meth ?zqk1 ?zqk2 ?zqk3 ?zqk4 ?zqk5 ?zqk6 ?zqk7 ?zqk8 ?_; walk_at "K4"; (case zqk5 => k_is); (case zqk6 => k_is); (case zqk7 => k_is); (case zqk8 => decide +kernel); k_whole))
  k_with "call builtin:len" => (k_here; (with_reducible show wpAny _ _ (call (Value.builtin "len") [Value.ref _]) _ _ _); k_dflt (first | (refine' len_nodes ?zqk3 ?zqk4 ?_; (case zqk3 => k_asm); (case zqk4 => k_asm); k_whole; intro tk' tj'; (try dsimp only)) | (refine' len_arr ?zqk3 ?zqk4 ?_; (case zqk3 => k_asm); (case zqk4 => k_asm); k_whole; intro tk' tj'; (try dsimp only))))
  k_with "subscriptTail" => (k_here; (with_reducible show wpAny _ _ (subscriptTail _ _ (Value.ref _) (Value.int _ _)) _ _ _); k_dflt (first | (refine' item_node ?zqk3 ?zqk4 ?zqk5 ?zqk6 ?_ ?zqk7; (case zqk3 => k_asm); (case zqk4 => k_asm); (case zqk5 => assumption); (case zqk6 => first | assumption | omega); (case zqk7 => with_unfolding_all rfl); k_whole) | (refine' item_arr ?zqk3 ?zqk4 ?zqk5 ?zqk6 ?_ ?zqk7; (case zqk3 => k_asm); (case zqk4 => k_asm); (case zqk5 => assumption); (case zqk6 => first | assumption | omega); (case zqk7 => with_unfolding_all rfl); k_whole)))
  k_with "setItem ref int" => (k_here; (with_reducible show wpAny _ _ (setItem (Value.ref _) (Value.int _ _) _) _ _ _); k_dflt (refine' set_arr ?zqk1 ?zqk3 ?zqk4 ?zqk5 ?zqk6 ?_; (case zqk1 => k_asm); (case zqk3 => k_asm); (case zqk4 => k_asm); (case zqk5 => omega); (case zqk6 => (try dsimp only); omega); k_whole; intro h' n' F' N' hT' hK'; (try dsimp only); (try k_sweep)))
  k_with "call builtin:list.append" => (k_here; (with_reducible show wpAny _ _ (call (Value.builtin _) [Value.ref _, _]) _ _ _); k_dflt (refine' app_arr ?zqk1 ?zqk3 ?zqk4 ?zqk5 ?_; (case zqk1 => k_asm); (case zqk3 => k_asm); (case zqk4 => k_asm); (case zqk5 => (try dsimp only); omega); k_whole; intro h' n' F' N' hT' hK'; (try dsimp only); (try k_sweep)))
  k_with "compareOp Is" => (k_here; (with_reducible show wpAny _ _ (compareOp CmpOp.Is _ Value.none) _ _ _); k_dflt (refine' kv_isnone ?zqk1 ?_; (case zqk1 => assumption); k_whole))
  k_with "exec For Name Name cons nil" => (k_here; (rename Fr _ _ _ _ => lF'); (with_unfolding_all refine' For_invVF lF' ?zqk1 ?zqk2 ?_; (case zqk1 => exact rfl); (case zqk2 => exact rfl); k_whole))
  k_with "exec For Name Call cons nil" => (k_here; (rename Fr _ _ _ _ => lF'); (with_unfolding_all refine' For_invVF lF' ?zqk1 ?zqk2 ?_; (case zqk1 => exact rfl); (case zqk2 => exact rfl); k_whole))
  k_with "exec For Name Attribute cons nil" => (k_here; (rename Fr _ _ _ _ => lF'); (with_unfolding_all refine' For_invVF lF' ?zqk1 ?zqk2 ?_; (case zqk1 => exact rfl); (case zqk2 => exact rfl); k_whole))
  k_with "TP" => ((first | (with_reducible show Mine.TP _ _ _ _ _ _ (Flow.ret _) _) | (with_reducible show Mine.TP _ _ _ _ _ _ Flow.brk _) | (with_reducible show Mine.TP _ _ _ _ _ _ Flow.next _) | (with_reducible show Mine.TP _ _ _ _ _ _ Flow.cont _)); (dsimp only [Mine.TP]))
  k_with "compareOp Is" => (k_here; (with_reducible show wpAny _ _ (compareOp CmpOp.Is _ Value.none) _ _ _); k_dflt (first | (refine' is_eq ?zqk1 ?_; (case zqk1 => assumption); k_whole) | (refine' is_ne ?zqk1 ?_; (case zqk1 => assumption); k_whole)))
  k_with "compareOp IsNot" => (k_here; (with_reducible show wpAny _ _ (compareOp CmpOp.IsNot _ Value.none) _ _ _); k_dflt (first | (refine' isnot_eq ?zqk1 ?_; (case zqk1 => assumption); k_whole) | (refine' isnot_ne ?zqk1 ?_; (case zqk1 => assumption); k_whole)))
  exact trivial

theorem ExcIn.cons {news0 nw : Led} {e : Addr} {mA : Str → Option Value} {p : Addr × Obj} (h : ExcIn news0 nw e mA) : ExcIn news0 (p :: nw) e mA := by
  obtain ⟨⟨o, t, d, od, es, ep, h1, h2, h3, h4, h5, h6, r⟩, hold⟩ := h
  exact ⟨⟨o, t, d, od, es, ep, .tail _ h1, h2, h3, h4, h5, .tail _ h6, r⟩, fun p hp => ⟨.tail _ (hold p hp).1, (hold p hp).2⟩⟩
/-- a call that may turn the ground (an exception went through the caller's stack) -/
noncomputable def SpecT (w : World) (f : Addr) (args : List Value) (cost : Nat) (P : Led → Prop) (R : Led → Value → Led → Prop) : Prop :=
  ∀ (mean : ExcName → Option Value) (mg mb : Str → Option Value) (dp un : Nat) (gd : Option (List Code)) (cn : Str) (cs : Scope) (a : Addr) (ccd : Value) (outer : List Env) (A₀ : Around) (base g₀ h₀ : Heap) (L : Addr) (m : Str → Option Value) (news : Led) (s : Shared)
    (Q E : Value → Shared → Prop),
    Below A₀ base outer h₀ → Fr h₀ L s.heap m → (Mine.hd.heap_1 w.params).In h₀ → News h₀ L s.heap news → Top VW LO mean mg mb h₀ →
    (Mine.hd.heap_1 w.params).In base → Top VW LO mean mg mb base → KtsDicts (outer.filterMap (·.frame)) h₀ → KtsTurn (outer.filterMap (·.frame)) g₀ h₀ →
    cs.kind = .function → P news → dp + cost < recursionLimit → un + 8 * cost < cLine →
    (∀ r h₀' h' tk' news', KtsTurn (outer.filterMap (·.frame)) g₀ h₀' → Fr h₀' L h' m → News h₀' L h' news' → Below A₀ base outer h₀' → (Mine.hd.heap_1 w.params).In h₀' → Top VW LO mean mg mb h₀' → KtsDicts (outer.filterMap (·.frame)) h₀' →
      R news r news' → Q r { s with heap := h', toks := tk' }) →
    wpAny (model PySem.Challenge.rw_pq0681_01.row.prog w) (ktrTop dp un gd cn cs L a ccd [] outer) (call (.ref f) args) Q E s
set_option maxRecDepth 100000 in
set_option maxHeartbeats 8000000 in
theorem RaisableL.of {w : World} {E : Value → Shared → Prop} {s₁ : Shared} {h₀ : Heap} {L e : Addr} {m mA : Str → Option Value} {news0 nw : Led} (F : Fr h₀ L s₁.heap m) (X : (Mine.hd.heap_1 w.params).In h₀) (N : News h₀ L s₁.heap nw) (hE : ExcIn news0 nw e mA) (h : E (.ref e) s₁) : RaisableL w E (.ref e) s₁ := by
  obtain ⟨⟨o, t, d, od, es, ep, h1, h2, h3, h4⟩, hold⟩ := hE
  exact ⟨e, o, t, rfl, X.keeps F.keep, (N _ h1).1, h2, h3, h⟩
theorem wd_P30_59 : True := by
  k_with "call ref" => (k_here; (with_reducible show wpAny _ _ (call (Value.ref 38) [_]) _ _ _); k_dflt (refine' call_lua ?zqF ?zqX ?zqN ?_; (case zqF => k_asm); (case zqX => k_asm); (case zqN => k_asm); k_whole; intro e' h' n' F' N' hE'; (try dsimp only)))
  k_with "setAttr ref" => (k_here; (with_reducible show wpAny _ _ (setAttr (Value.ref _) (PySem.Str.ofString "value") _) _ _ _); k_dflt (refine' exc_value ?zqF ?zqX ?zqN ?zqE ?_; (case zqF => k_asm); (case zqX => k_asm); (case zqN => k_asm); (case zqE => assumption); k_whole; intro h' tk' n' F' N' hE'; (try dsimp only); (try k_sweep)))
  k_with "setAttr ref" => (k_here; (with_reducible show wpAny _ _ (setAttr (Value.ref _) (PySem.Str.ofString "is_in_handler") _) _ _ _); k_dflt (refine' exc_more ?zqF ?zqX ?zqN ?zqE ?zqna ?zqW ?zqz ?_; (case zqF => k_asm); (case zqX => k_asm); (case zqN => k_asm); (case zqE => assumption); (case zqna => exact Or.inr rfl); (case zqW => within_ways); (case zqz => size_fits); k_whole; intro h' tk' n' F' N' hE'; (try dsimp only); (try k_sweep)))
  k_with "setAttr ref" => (k_here; (with_reducible show wpAny _ _ (setAttr (Value.ref _) (PySem.Str.ofString "trace") _) _ _ _); k_dflt (refine' exc_more ?zqF ?zqX ?zqN ?zqE ?zqna ?zqW ?zqz ?_; (case zqF => k_asm); (case zqX => k_asm); (case zqN => k_asm); (case zqE => exact ExcIn.cons (by assumption)); (case zqna => exact Or.inl rfl); (case zqW => within_ways); (case zqz => size_fits); k_whole; intro h' tk' n' F' N' hE'; (try dsimp only); (try k_sweep)))
  k_with "exec Raise some none" => (k_here; k_dflt (refine' raise_L rfl ?_; k_whole))
  k_with "RaisableL" => (rename ExcIn _ _ _ _ => exI; (refine' RaisableL.of ?zqF ?zqX ?zqN ?zqE ?_; (case zqE => exact exI); (case zqF => k_asm); (case zqX => k_asm); (case zqN => k_asm)); (try dsimp only))
  k_with "leaving ref" => (k_here; k_dflt (refine' leave_raiseD ?zqk1 ?zqk2 ?zqk3 ?zqk0 ?_; (case zqk0 => assumption); (case zqk2 => k_asm); (case zqk1 => assumption); (case zqk3 => k_asm); k_whole; intro h' S' U'; (try dsimp only at S' U' ⊢)))
  k_with "noteFrame ref" => (k_here; (rename RaisedD _ _ _ _ _ _ _ => rsX); k_dflt (refine' caught_D ?zqR ?zqF ?zqK ?zqU ?zqXB ?zqTB ?zqD ?zqT0 ?zqex ?zqq ?_; (case zqR => assumption); (case zqF => assumption); (case zqK => assumption); (case zqU => assumption); (case zqXB => assumption); (case zqTB => assumption); (case zqD => assumption); (case zqT0 => first | assumption | exact KtsTurn.refl); (case zqex => k_is); (case zqq => kts_isx); k_whole); intro h' g' n' tk' T' F' N' C' O' K' X' P' D'; (try k_lift K'); (try k_sweep))
  k_with "getAttr ref" => (k_here; (with_reducible show wpAny _ _ (getAttr (Value.ref _) (PySem.Str.ofString "value") _) _ _ _); (with_reducible rename Caught _ _ _ => cgX); k_dflt (refine' caught_get ?zqF ?zqX ?zqN ?zqC ?zqv ?zqh ?_; (case zqF => k_asm); (case zqX => k_asm); (case zqN => k_asm); (case zqC => exact cgX); (case zqv => exact rfl); (case zqh => exact rfl); k_whole; intro tk'; (try dsimp only)))
  exact trivial
set_option maxRecDepth 100000 in
set_option maxHeartbeats 8000000 in
theorem refused_spec_a (w : World) (t : Addr) (Y : Lay) (T : Tab) (a1 h1 : Int) (ta th : Tok) (hbig : a1 > 4194304) : SpecT w 452 [.ref t, .int a1 ta, .int h1 th] 40 (fun nw => TabIn nw t Y T)
    (fun n0 r n1 => r = .bool true ∧ TabIn n1 t Y T ∧ (∀ p ∈ n0, p ∈ n1)) := by
  unfold SpecT
  k_fill
  intro mean mg mb dp un gd cn cs a ccd outer A₀ base g₀ h₀ L m news s Q E B F X N TP XB TB KD KT hk hP hd hu hret
  w_top on
  w_on
  repeat (rename HaltAt _ => hM9; clear hM9)
  rename TabIn _ _ _ _ => hT
  refine wpAny_call ?_
  refine' code_defS (cn := cn) (cs := cs) (a := a) (ccd := ccd) ?k1 ?k2 ?k3 ?k4 ?k5 ?XB ?TB ?D ?T0 ?kA ?k6 ?k7 ?k8 ?k9 ?kB ?_ ?cK ?c2 ?c3 ?c4 ?c5
  case kA => exact rfl
  case k2 => exact F
  case k1 => exact B
  case XB => exact XB
  case TB => exact TB
  case D => exact KD
  case T0 => exact KT
  case k3 => exact X
  case k4 => exact N
  case k5 => exact TP
  case k6 => k_is
  case k7 => k_is
  case k8 => walk_at "KD"
  case k9 => first | exact binds_K (by k_in) rfl (by k_is) rfl rfl rfl | exact BindsTo.of_eq rfl
  case kB => exact locs rfl
  case cK => exact hk
  case c2 => exact rfl
  case c3 => exact rfl
  case c4 => exact rfl
  case c5 => decide
  k_whole
  intro g' L' h' FG' F' N' B' X' T' D'
  (try dsimp only); (try k_lift B'); (try k_fold)
  k_steps
  rename ∀ q ∈ news, q ∈ _ => O
  rename KtsTurn _ g₀ _ => kT
  rename KtsDicts (List.filterMap _ outer) _ => kD
  rename Below A₀ base outer _ => kB
  refine hret _ _ _ _ _ kT (by assumption) (by assumption) kB (by assumption) (by assumption) kD ⟨?_, hT.mono O, O⟩
  rfl
set_option maxRecDepth 100000 in
set_option maxHeartbeats 8000000 in
theorem refused_spec_h (w : World) (t : Addr) (Y : Lay) (T : Tab) (a1 h1 : Int) (ta th : Tok) (hsm : a1 ≤ 4194304) (hbig : h1 > 1048576) : SpecT w 452 [.ref t, .int a1 ta, .int h1 th] 40 (fun nw => TabIn nw t Y T)
    (fun n0 r n1 => r = .bool true ∧ TabIn n1 t Y T ∧ (∀ p ∈ n0, p ∈ n1)) := by
  unfold SpecT
  k_fill
  intro mean mg mb dp un gd cn cs a ccd outer A₀ base g₀ h₀ L m news s Q E B F X N TP XB TB KD KT hk hP hd hu hret
  w_top on
  w_on
  repeat (rename HaltAt _ => hM9; clear hM9)
  rename TabIn _ _ _ _ => hT
  refine wpAny_call ?_
  refine' code_defS (cn := cn) (cs := cs) (a := a) (ccd := ccd) ?k1 ?k2 ?k3 ?k4 ?k5 ?XB ?TB ?D ?T0 ?kA ?k6 ?k7 ?k8 ?k9 ?kB ?_ ?cK ?c2 ?c3 ?c4 ?c5
  case kA => exact rfl
  case k2 => exact F
  case k1 => exact B
  case XB => exact XB
  case TB => exact TB
  case D => exact KD
  case T0 => exact KT
  case k3 => exact X
  case k4 => exact N
  case k5 => exact TP
  case k6 => k_is
  case k7 => k_is
  case k8 => walk_at "KD"
  case k9 => first | exact binds_K (by k_in) rfl (by k_is) rfl rfl rfl | exact BindsTo.of_eq rfl
  case kB => exact locs rfl
  case cK => exact hk
  case c2 => exact rfl
  case c3 => exact rfl
  case c4 => exact rfl
  case c5 => decide
  k_whole
  intro g' L' h' FG' F' N' B' X' T' D'
  (try dsimp only); (try k_lift B'); (try k_fold)
  k_steps
  rename ∀ q ∈ news, q ∈ _ => O
  rename KtsTurn _ g₀ _ => kT
  rename KtsDicts (List.filterMap _ outer) _ => kD
  rename Below A₀ base outer _ => kB
  refine hret _ _ _ _ _ kT (by assumption) (by assumption) kB (by assumption) (by assumption) kD ⟨?_, hT.mono O, O⟩
  rfl
theorem refused_spec (w : World) (t : Addr) (Y : Lay) (T : Tab) (a1 h1 : Int) (ta th : Tok) (hbig : a1 > 4194304 ∨ h1 > 1048576) : SpecT w 452 [.ref t, .int a1 ta, .int h1 th] 40 (fun nw => TabIn nw t Y T)
    (fun n0 r n1 => r = .bool true ∧ TabIn n1 t Y T ∧ (∀ p ∈ n0, p ∈ n1)) := by
  by_cases h : a1 > 4194304
  · exact refused_spec_a w t Y T a1 h1 ta th h
  · exact refused_spec_h w t Y T a1 h1 ta th (by omega) (by omega)

end
section
theorem wd_P31_0 : True := by
  k_with_none
  exact trivial
theorem wd_P31_60 : True := by
  k_with "KD" => first | exact dlt (by assumption) (by first | decide | omega) | exact dlt1 (by assumption) (by first | decide | omega) | exact dlt0 (by assumption) | ktr_room
  k_with "KU" => first | exact ult (by assumption) (by first | decide | omega) | ktr_units
  k_with "ENTER" => (refine' enter_ ?zqk1 ?zqk2 ?zqk3 ?zqk4 ?zqk5 ?zqkA ?zqkF ?zqkK ?zqk6 ?zqk7 ?zqk8 ?zqk9 ?zqkB ?_ ?zqc2 ?zqc3 ?zqc4 ?zqc5; (case zqkA => exact rfl); (case zqkF => exact rfl); (case zqkK => first | exact rfl | assumption); (case zqk1 => k_asm); (case zqk2 => k_asm); (case zqk3 => k_asm); (case zqk4 => k_asm); (case zqk5 => k_asm); (case zqk6 => k_is); (case zqk7 => k_is); (case zqk8 => walk_at "KD"); (case zqk9 => first | exact BindsTo.of_eq rfl | exact binds_K (by k_in) rfl (by k_is) rfl rfl rfl | fail "ENTER: no rule for these arguments"); (case zqc5 => decide); (case zqkB => exact locs rfl); (case zqc2 => exact rfl); (case zqc3 => exact rfl); (case zqc4 => exact rfl); k_whole; intro g' L' h' tk' FG' mm F' N' B' X' T' qk ek)
  k_with "call ref" => (k_here; k_dflt (first | (refine' call_cls0 ?zqk1 ?zqk2 ?zqk3 ?zqk4 ?zqk5 ?_; (case zqk1 => k_asm); (case zqk2 => k_asm); (case zqk3 => k_asm); (case zqk4 => k_is); (case zqk5 => k_is); k_whole; intro x' d' h' F' N' l1 l2; (try k_lt l1); (try k_lt2 l2); (try k_sweep)) | (refine' call_cls ?zqk1 ?zqk2 ?zqk3 ?zqk4 ?zqk5 ?zqk6 ?_; (case zqk1 => k_asm); (case zqk2 => k_asm); (case zqk3 => k_asm); (case zqk4 => k_is); (case zqk5 => k_is); (case zqk6 => k_is); k_whole; intro x' d' h' F' N' l1 l2; (try k_lt l1); (try k_lt2 l2); (try k_sweep); walk_at "ENTER") | (refine' call_meth ?zqk1 ?zqk2 ?_; (case zqk1 => k_asm); (case zqk2 => k_mem); k_whole; walk_at "ENTER") | (refine wpAny_call ?_; walk_at "ENTER")))
  k_with "call builtin:len" => (k_here; (with_reducible show wpAny _ _ (call (Value.builtin "len") [Value.ref _]) _ _ _); k_dflt (refine' kst_len ?zqk1 ?zqk2 ?zqk3 ?zqk4 ?_; (case zqk1 => k_asm); (case zqk2 => k_mem); (case zqk3 => first | assumption | exact rfl); (case zqk4 => omega); k_whole))
  k_with "WhileStep2" => (first | (with_reducible show WhileStep2 _ _ _ _ _ _ (Flow.ret _) _) | (with_reducible show WhileStep2 _ _ _ _ _ _ Flow.brk _)); (dsimp only [WhileStep2])
  k_with "execs cons" => (k_here; refine wpAny_execs_cons (foldQ ?_); intro qs)
  k_with "storeName" => (k_here; (try dsimp only); k_dflt (refine' store_ ?zqF ?zqN ?_ ?zqa ?zqb; (case zqF => k_asm); (case zqN => k_asm); (case zqa => first | exact rfl | assumption); (case zqb => rfl); k_whole; intro h' tk' mm F' N'; (try k_sweep)))
  k_with "exec While Compare cons nil" => refine Halt.go ?_
  k_with "pyIter ref" => refine Halt.go ?_
  k_with "call type:enumerate" => refine Halt.go ?_
  k_with "KswEnd" => refine Halt.at (k := "KswEnd") (by assumption) ?_
  k_with "subscriptTail" => refine Halt.at (k := "subscriptTail") (by assumption) ?_
  k_with "eval ListComp" => refine Halt.at (k := "eval ListComp") (by assumption) ?_
  k_with "CompSrc" => refine Halt.at (k := "CompSrc") (by assumption) ?_
  k_with "CompEnd" => refine Halt.at (k := "CompEnd") (by assumption) ?_
  k_with "call ref" => refine Halt.at (k := "call ref") (by assumption) ?_
  k_with "call builtin:sorted" => refine Halt.at (k := "call builtin:sorted") (by assumption) ?_
  k_with "call builtin:repr" => refine Halt.at (k := "call builtin:repr") (by assumption) ?_
  k_with "unpackItems ref" => refine Halt.at (k := "unpackItems ref") (by assumption) ?_
  k_with "compareOp Eq ref ref" => refine Halt.at (k := "compareOp Eq ref ref") (by assumption) ?_
  k_with "call type:str" => refine Halt.at (k := "call type:str") (by assumption) ?_
  k_with "K4" => ((case zqk1 => k_asm); (case zqk2 => k_asm); (case zqk3 => k_asm); (case zqk4 => k_asm))
  k_with "K56" => ((case zqk5 => first | assumption | (with_unfolding_all assumption)); (case zqk6 => first | assumption | (with_unfolding_all assumption)))
  k_with "KN" => (k_whole; intro h' tj' n' F' N' hT' hK'; (try dsimp only); (try k_sweep))
  k_with "getAttr ref" => (k_here; (with_reducible show wpAny _ _ (getAttr (Value.ref _) (PySem.Str.ofString "free") _) _ _ _); k_dflt (refine' get_free ?zqk1 ?zqk2 ?zqk3 ?zqk4 ?_; walk_at "K4"; k_whole; intro tk' tj'; (try dsimp only)))
  k_with "getAttr ref" => (k_here; (with_reducible show wpAny _ _ (getAttr (Value.ref _) (PySem.Str.ofString "size") _) _ _ _); k_dflt (refine' get_size ?zqk1 ?zqk2 ?zqk3 ?zqk4 ?_; walk_at "K4"; k_whole; intro tk' tj'; (try dsimp only)))
  k_with "getAttr ref" => (k_here; (with_reducible show wpAny _ _ (getAttr (Value.ref _) (PySem.Str.ofString "array") _) _ _ _); k_dflt (refine' get_array ?zqk1 ?zqk2 ?zqk3 ?zqk4 ?_; walk_at "K4"; k_whole; intro tj'; (try dsimp only)))
  k_with "getAttr ref" => (k_here; (with_reducible show wpAny _ _ (getAttr (Value.ref _) (PySem.Str.ofString "nodes") _) _ _ _); k_dflt (refine' get_nodes ?zqk1 ?zqk2 ?zqk3 ?zqk4 ?_; walk_at "K4"; k_whole; intro tj'; (try dsimp only)))
  k_with "getAttr ref" => (k_here; (with_reducible show wpAny _ _ (getAttr (Value.ref _) (PySem.Str.ofString "key") _) _ _ _); k_dflt (first | (refine' get_key_none ?zqk1 ?zqk2 ?zqk3 ?zqk4 ?zqk5 ?zqk6 ?zqk7 ?_; walk_at "K4"; walk_at "K56"; (case zqk7 => assumption); k_whole; intro tj'; (try dsimp only)) | (refine' get_key_some ?zqk1 ?zqk2 ?zqk3 ?zqk4 ?zqk5 ?zqk6 ?zqk7 ?_; walk_at "K4"; walk_at "K56"; (case zqk7 => assumption); k_whole; intro kv' tj' hkv'; (try dsimp only)) | (refine' get_key_any ?zqk1 ?zqk2 ?zqk3 ?zqk4 ?zqk5 ?zqk6 ?_; walk_at "K4"; walk_at "K56"; k_whole; intro kv' tj' hkv'; (try dsimp only))))
  k_with "getAttr ref" => (k_here; (with_reducible show wpAny _ _ (getAttr (Value.ref _) (PySem.Str.ofString "value") _) _ _ _); k_dflt (refine' get_value ?zqk1 ?zqk2 ?zqk3 ?zqk4 ?zqk5 ?zqk6 ?_; walk_at "K4"; walk_at "K56"; k_whole; intro tj'; (try dsimp only)))
  k_with "getAttr ref" => (k_here; (with_reducible show wpAny _ _ (getAttr (Value.ref _) (PySem.Str.ofString "next") _) _ _ _); k_dflt (refine' get_next ?zqk1 ?zqk2 ?zqk3 ?zqk4 ?zqk5 ?zqk6 ?_; walk_at "K4"; walk_at "K56"; k_whole; intro tk' tj'; (try dsimp only)))
  k_with "setAttr ref" => (k_here; (with_reducible show wpAny _ _ (setAttr (Value.ref _) (PySem.Str.ofString "free") _) _ _ _); k_dflt (refine' set_free ?zqk1 ?zqk2 ?zqk3 ?zqk4 ?_; walk_at "K4"; walk_at "KN"))
  k_with "setAttr ref" => (k_here; (with_reducible show wpAny _ _ (setAttr (Value.ref _) (PySem.Str.ofString "size") _) _ _ _); k_dflt (refine' set_size ?zqk1 ?zqk2 ?zqk3 ?zqk4 ?_; walk_at "K4"; walk_at "KN"))
  k_with "setAttr ref" => (k_here; (with_reducible show wpAny _ _ (setAttr (Value.ref _) (PySem.Str.ofString "flags") _) _ _ _); k_dflt (refine' set_flags ?zqk1 ?zqk2 ?zqk3 ?zqk4 ?_; walk_at "K4"; walk_at "KN"))
  k_with "setAttr ref" => (k_here; (with_reducible show wpAny _ _ (setAttr (Value.ref _) (PySem.Str.ofString "log_nodes") _) _ _ _); k_dflt (refine' set_log_nodes ?zqk1 ?zqk2 ?zqk3 ?zqk4 ?_; walk_at "K4"; walk_at "KN"))
  k_with "setAttr ref" => (k_here; (with_reducible show wpAny _ _ (setAttr (Value.ref _) (PySem.Str.ofString "key") _) _ _ _); k_dflt (refine' set_key ?zqk1 ?zqk2 ?zqk3 ?zqk4 ?zqk5 ?zqk6 ?zqk7 ?_; walk_at "K4"; walk_at "K56"; (case zqk7 => first | assumption | exact KV.none); walk_at "KN"))
  k_with "setAttr ref" => (k_here; (with_reducible show wpAny _ _ (setAttr (Value.ref _) (PySem.Str.ofString "value") _) _ _ _); k_dflt (refine' set_value ?zqk1 ?zqk2 ?zqk3 ?zqk4 ?zqk5 ?zqk6 ?zqk7 ?_; walk_at "K4"; walk_at "K56"; (case zqk7 => first | assumption | rfl); walk_at "KN"))
  k_with "setAttr ref" => (k_here; (with_reducible show wpAny _ _ (setAttr (Value.ref _) (PySem.Str.ofString "next") _) _ _ _); k_dflt (refine' set_next ?zqk1 ?zqk2 ?zqk3 ?zqk4 ?zqk5 ?zqk6 ?_; walk_at "K4"; walk_at "K56"; walk_at "KN"))
  k_with "getMethod ref" => (k_here; (with_reducible show wpAny _ _ (getMethod (Value.ref _) _ _) _ _ _); k_dflt (refine' tab_meth ?zqk1 ?zqk2 ?zqk3 ?zqk4 ?zqk5 ?zqk6 ?zqk7 ?zqk8 ?_; walk_at "K4"; (case zqk5 => k_is); (case zqk6 => k_is); (case zqk7 => k_is); (case zqk8 => decide +kernel); k_whole))
  k_with "call builtin:len" => (k_here; (with_reducible show wpAny _ _ (call (Value.builtin "len") [Value.ref _]) _ _ _); k_dflt (first | (refine' len_nodes ?zqk3 ?zqk4 ?_; (case zqk3 => k_asm); (case zqk4 => k_asm); k_whole; intro tk' tj'; (try dsimp only)) | (refine' len_arr ?zqk3 ?zqk4 ?_; (case zqk3 => k_asm); (case zqk4 => k_asm); k_whole; intro tk' tj'; (try dsimp only))))
  k_with "subscriptTail" => (k_here; (with_reducible show wpAny _ _ (subscriptTail _ _ (Value.ref _) (Value.int _ _)) _ _ _); k_dflt (first | (refine' item_node ?zqk3 ?zqk4 ?zqk5 ?zqk6 ?_ ?zqk7; (case zqk3 => k_asm); (case zqk4 => k_asm); (case zqk5 => assumption); (case zqk6 => first | assumption | omega); (case zqk7 => with_unfolding_all rfl); k_whole) | (refine' item_arr ?zqk3 ?zqk4 ?zqk5 ?zqk6 ?_ ?zqk7; (case zqk3 => k_asm); (case zqk4 => k_asm); (case zqk5 => assumption); (case zqk6 => first | assumption | omega); (case zqk7 => with_unfolding_all rfl); k_whole)))
  k_with "setItem ref int" => (k_here; (with_reducible show wpAny _ _ (setItem (Value.ref _) (Value.int _ _) _) _ _ _); k_dflt (refine' set_arr ?zqk1 ?zqk3 ?zqk4 ?zqk5 ?zqk6 ?_; (case zqk1 => k_asm); (case zqk3 => k_asm); (case zqk4 => k_asm); (case zqk5 => omega); (case zqk6 => (try dsimp only); omega); k_whole; intro h' n' F' N' hT' hK'; (try dsimp only); (try k_sweep)))
  k_with "call builtin:list.append" => (k_here; (with_reducible show wpAny _ _ (call (Value.builtin _) [Value.ref _, _]) _ _ _); k_dflt (refine' app_arr ?zqk1 ?zqk3 ?zqk4 ?zqk5 ?_; (case zqk1 => k_asm); (case zqk3 => k_asm); (case zqk4 => k_asm); (case zqk5 => (try dsimp only); omega); k_whole; intro h' n' F' N' hT' hK'; (try dsimp only); (try k_sweep)))
  k_with "compareOp Is" => (k_here; (with_reducible show wpAny _ _ (compareOp CmpOp.Is _ Value.none) _ _ _); k_dflt (refine' kv_isnone ?zqk1 ?_; (case zqk1 => assumption); k_whole))
  k_with "exec For Name Name cons nil" => (k_here; (rename Fr _ _ _ _ => lF'); (with_unfolding_all refine' For_invVF lF' ?zqk1 ?zqk2 ?_; (case zqk1 => exact rfl); (case zqk2 => exact rfl); k_whole))
  k_with "exec For Name Call cons nil" => (k_here; (rename Fr _ _ _ _ => lF'); (with_unfolding_all refine' For_invVF lF' ?zqk1 ?zqk2 ?_; (case zqk1 => exact rfl); (case zqk2 => exact rfl); k_whole))
  k_with "exec For Name Attribute cons nil" => (k_here; (rename Fr _ _ _ _ => lF'); (with_unfolding_all refine' For_invVF lF' ?zqk1 ?zqk2 ?_; (case zqk1 => exact rfl); (case zqk2 => exact rfl); k_whole))
  k_with "TP" => ((first | (with_reducible show Mine.TP _ _ _ _ _ _ (Flow.ret _) _) | (with_reducible show Mine.TP _ _ _ _ _ _ Flow.brk _) | (with_reducible show Mine.TP _ _ _ _ _ _ Flow.next _) | (with_reducible show Mine.TP _ _ _ _ _ _ Flow.cont _)); (dsimp only [Mine.TP]))
  k_with "compareOp Is" => (k_here; (with_reducible show wpAny _ _ (compareOp CmpOp.Is _ Value.none) _ _ _); k_dflt (first | (refine' is_eq ?zqk1 ?_; (case zqk1 => assumption); k_whole) | (refine' is_ne ?zqk1 ?_; (case zqk1 => assumption); k_whole)))
  k_with "compareOp IsNot" => (k_here; (with_reducible show wpAny _ _ (compareOp CmpOp.IsNot _ Value.none) _ _ _); k_dflt (first | (refine' isnot_eq ?zqk1 ?_; (case zqk1 => assumption); k_whole) | (refine' isnot_ne ?zqk1 ?_; (case zqk1 => assumption); k_whole)))
  exact trivial

theorem SpecT.use {w : World} {f : Addr} {args : List Value} {cost : Nat} {P : Led → Prop} {R : Led → Value → Led → Prop} (S : SpecT w f args cost P R)
    {mean : ExcName → Option Value} {mg mb : Str → Option Value} {dp un : Nat} {gd : Option (List Code)} {cn : Str} {cs : Scope} {a : Addr} {ccd : Value} {outer : List Env} {A₀ : Around} {base g₀ h₀ : Heap} {L : Addr} {m : Str → Option Value} {news : Led} {s : Shared}
    {Q E : Value → Shared → Prop} (B : Below A₀ base outer h₀) (F : Fr h₀ L s.heap m) (X : (Mine.hd.heap_1 w.params).In h₀) (N : News h₀ L s.heap news) (T : Top VW LO mean mg mb h₀)
    (XB : (Mine.hd.heap_1 w.params).In base) (TB : Top VW LO mean mg mb base) (D : KtsDicts (outer.filterMap (·.frame)) h₀) (T0 : KtsTurn (outer.filterMap (·.frame)) g₀ h₀)
    (hk : cs.kind = .function) (hP : P news) (hd : dp + cost < recursionLimit) (hu : un + 8 * cost < cLine)
    (ret : ∀ r h₀' h' tk' news', KtsTurn (outer.filterMap (·.frame)) g₀ h₀' → Fr h₀' L h' m → News h₀' L h' news' → Below A₀ base outer h₀' → (Mine.hd.heap_1 w.params).In h₀' → Top VW LO mean mg mb h₀' → KtsDicts (outer.filterMap (·.frame)) h₀' →
      R news r news' → Q r { s with heap := h', toks := tk' }) :
    wpAny (model PySem.Challenge.rw_pq0681_01.row.prog w) (ktrTop dp un gd cn cs L a ccd [] outer) (call (.ref f) args) Q E s :=
  S _ _ _ _ _ _ _ _ _ _ _ _ _ _ _ _ _ _ _ _ _ B F X N T XB TB D T0 hk hP hd hu ret
/-! _law_thrown -/
noncomputable def DiceAt (nw : Led) (d f : Addr) (xs : List Int) (k : Nat) : Prop := ∃ c tk, (d, listOf #[.ref f, .int k tk] c) ∈ nw ∧ ListAt f xs nw ∧ d ≠ f
noncomputable def thr (xs : List Int) (k : Nat) (many : Int) : Int := if k < xs.length then (if xs.getD (k : Int).toNat 0 < 0 then -xs.getD (k : Int).toNat 0 else xs.getD (k : Int).toNat 0).fmod many else (5 * (k : Int) + (k : Int).fdiv 3 + 3).fmod many
theorem thr_lt (xs : List Int) (k : Nat) {many : Int} (h : 0 < many) : 0 ≤ thr xs k many ∧ thr xs k many < many := by
  unfold thr; split <;> (rw [Int.fmod_eq_emod_of_nonneg _ (by omega)]; exact ⟨Int.emod_nonneg _ (by omega), Int.emod_lt_of_pos _ h⟩)
section
variable {w : World} {A : Around} {E : Value → Shared → Prop} {s : Shared} {h₀ : Heap} {L d f : Addr} {m : Str → Option Value} {news : Led} {xs : List Int} {k : Nat} {u : Tok}
theorem set_dice {x : Int} {t : Tok} {Q : Unit → Shared → Prop} (F : Fr h₀ L s.heap m) (N : News h₀ L s.heap news) (hD : DiceAt news d f xs k) (hx : x = (k : Int) + 1)
    (h : ∀ h' n', Fr h₀ L h' m → News h₀ L h' n' → DiceAt n' d f xs (k + 1) → KeepBut d news n' → Q () { s with heap := h' }) :
    wpAny (model PySem.Challenge.rw_pq0681_01.row.prog w) A (setItem (.ref d) (.int 1 u) (.int x t)) Q E s := by
  obtain ⟨c, tk, hm, ⟨vs, c2, hi, hf⟩, hne⟩ := hD
  subst hx
  refine setAtP (vs := [.ref f, .int k tk]) F N hm (by omega) (by simp) (by omega) fun h' F' N' => ?_
  exact h _ _ F' N' ⟨_, _, put_self, ⟨vs, c2, hi, put_ne hf (fun e => hne e.symm)⟩, hne⟩ fun p hp hn => put_ne hp hn
theorem len_ints {Q : Value → Shared → Prop} (N : News h₀ L s.heap news) (hC : ListAt f xs news) (hx : xs.length < 1000) (h : ∀ tk tk', Q (.int (xs.length : Int) tk) { s with toks := tk' }) :
    wpAny (model PySem.Challenge.rw_pq0681_01.row.prog w) A (call (.builtin "len") [.ref f]) Q E s := by
  obtain ⟨vs, c, hi, hm⟩ := hC
  have hl := hi.length
  exact kst_len N hm (by rw [hl]) (by omega) (h _ _)
end
theorem wd_P31_61 : True := by
  k_with "getItem ref int" => (k_here; (with_reducible show wpAny _ _ (getItem (Value.ref _) (Value.int _ _)) _ _ _); k_dflt (refine' get_cnt ?zqk3 ?zqk4 ?zqk5 ?zqk6 ?zqk7 ?_; (case zqk3 => k_asm); (case zqk4 => k_asm); (case zqk5 => omega); (case zqk6 => omega); (case zqk7 => omega); k_whole; intro tk'))
  k_with "subscriptTail" => (k_here; (with_reducible show wpAny _ _ (subscriptTail _ _ (Value.ref _) (Value.int _ _)) _ _ _); k_dflt (refine' sub_cnt ?zqk3 ?zqk4 ?zqk5 ?zqk6 ?zqk7 ?_ ?zqk8; (case zqk3 => k_asm); (case zqk4 => k_asm); (case zqk5 => omega); (case zqk6 => omega); (case zqk7 => omega); (case zqk8 => with_unfolding_all rfl); k_whole; intro tk'))
  k_with "setItem ref int" => (k_here; (with_reducible show wpAny _ _ (setItem (Value.ref _) (Value.int _ _) (Value.int _ _)) _ _ _); k_dflt (refine' set_cnt ?zqk1 ?zqk3 ?zqk4 ?zqk5 ?zqk6 ?zqk7 ?_; (case zqk1 => k_asm); (case zqk3 => k_asm); (case zqk4 => k_asm); (case zqk5 => omega); (case zqk6 => omega); (case zqk7 => omega); k_whole; intro h' n' F' N' hC' hK'; (try dsimp only); (try k_sweep)))
  k_with "call builtin:len" => (k_here; (with_reducible show wpAny _ _ (call (Value.builtin "len") [Value.ref _]) _ _ _); k_dflt (refine' len_ints ?zqk3 ?zqk4 ?zqk5 ?_; (case zqk3 => k_asm); (case zqk4 => k_asm); (case zqk5 => assumption); k_whole; intro tk' tj'; (try dsimp only)))
  k_with "setItem ref int" => (k_here; (with_reducible show wpAny _ _ (setItem (Value.ref _) (Value.int _ _) _) _ _ _); k_dflt (refine' set_dice ?zqk1 ?zqk3 ?zqk4 ?zqk5 ?_; (case zqk1 => k_asm); (case zqk3 => k_asm); (case zqk4 => assumption); (case zqk5 => first | rfl | omega); k_whole; intro h' n' F' N' hD' hK'; (obtain ⟨_, _, _, hC', _⟩ := id hD'); (try dsimp only); (try k_sweep)))
  exact trivial
set_option maxRecDepth 100000 in
set_option maxHeartbeats 8000000 in
theorem thrown_spec (w : World) (d f : Addr) (xs : List Int) (k : Nat) (many : Int) (mt : Tok) (hm : 0 < many) (hm2 : many < 100) (hk100 : k < 100) (hx : xs.length < 1000) : Spec w 438 [.ref d, .int many mt] 10 (fun nw => DiceAt nw d f xs k)
    (fun n0 r n1 => (∃ t, r = .int (thr xs k many) t) ∧ DiceAt n1 d f xs (k + 1) ∧ KeepBut d n0 n1) := by
  unfold Spec
  k_fill
  intro mean mg mb dp un gd cn cs a ccd cl outer A₀ base h₀ L m news s Q E B F X N TP hk hP hd hu hret
  w_top on
  w_on
  have hD := hP
  obtain ⟨c, tk, hmd, ⟨vs, c2, hi, hf⟩, hne⟩ := hP
  by_cases hlt : k < xs.length
  · have hlt' : (k : Int) < (xs.length : Int) := by omega
    k_steps
    rw [thr, if_pos hlt] at hret
    exact hret _ _ _ _ (by k_asm) (by k_asm) ⟨⟨_, rfl⟩, by assumption, by assumption⟩
  · have hlt' : ¬ (k : Int) < (xs.length : Int) := by omega
    k_steps
    rw [thr, if_neg hlt] at hret
    exact hret _ _ _ _ (by k_asm) (by k_asm) ⟨⟨_, rfl⟩, by assumption, by assumption⟩

end
section
open PySem.SeqAt
/-! comparing lists of pairs; texts of pairs -/
theorem EqAt_bytes (A : Around) (s : Shared) (b c : Array UInt8) (t u : Tok) : EqAt A s (.bytes b t) (.bytes c u) (b.toList == c.toList) := fun prog w E Q h => by
  unfold eqBool
  refine wpAny_holding ?_
  refine wpAny_ite_split (fun hab => ?_) (fun _ => ?_)
  · have e : b = c := by have := eq_of_beq hab; injection this
    subst e
    exact wpAny_bind (wpAny_rule (wpAny_pure (by simpa using h)))
  · refine wpAny_bind (show wpAny _ A (richCompare .Eq _ _) _ _ _ from ?_)
    exact eq_bytes (wpAny_truthy_bool h)
theorem EqAt_kv {A : Around} {s : Shared} {a b : Value} {k : PKey} (h1 : KV a (some k)) (h2 : KV b (some k)) : EqAt A s a b true := by
  cases h1 with
  | int i t => cases h2 with
    | int _ u => have := EqAt.int_int (A := A) (s := s) i t i u; rwa [beq_self_eq_true] at this
  | bts x t =>
    generalize hk : (some (PKey.bts x.toList)) = kk at h2
    cases h2 with
    | none => cases hk
    | int j u => cases hk
    | bts y u =>
      have e : x.toList = y.toList := by injection hk with hk; injection hk
      have := EqAt_bytes A s x y t u
      rwa [e, beq_self_eq_true] at this
theorem EqAt_pair {A : Around} {s : Shared} {h₀ : Heap} {L p q : Addr} {nw : Led} {k : PKey} {v a b : Value} (N : News h₀ L s.heap nw) (hp : (p, tupObj [a, v]) ∈ nw) (hq : (q, tupObj [b, v]) ∈ nw) (h1 : KV a (some k)) (h2 : KV b (some k)) (hu : A.units < cLine) :
    EqAt A s (.ref p) (.ref q) true := by
  by_cases e : p = q
  · subst e; exact EqAt.same _
  · refine EqAt.of_refs e ?_
    have := RcAt.tuples (A := A) (s := s) (l := p) (b := q) (items := #[a, v]) (items2 := #[b, v]) (e := fun _ => true) ⟨_, (N _ hp).1, rfl, _, rfl⟩ ⟨_, (N _ hq).1, rfl, _, rfl⟩ hu (fun j h1' h2' => by
      match j with
      | 0 => exact EqAt_kv h1 h2
      | 1 => exact EqAt.same _
      | j + 2 => exact absurd (show j + 2 < 2 from h1') (by omega))
    have h2 : (((List.range (min #[a, v].size #[b, v].size)).all fun _ => true) && (#[a, v].size == #[b, v].size)) = true := rfl
    rw [h2] at this
    exact this
theorem PairsAt.len {nw : Led} : ∀ {ps : List Addr} {es : List (PKey × Value)}, PairsAt nw ps es → ps.length = es.length
  | _, _, .nil => rfl
  | _, _, .cons _ _ r => by simp [r.len]
theorem PairsAt.get {nw : Led} : ∀ {ps : List Addr} {es : List (PKey × Value)}, PairsAt nw ps es → ∀ (j : Nat) (p : Addr), ps[j]? = some p → ∃ k v kv, es[j]? = some (k, v) ∧ KV kv (some k) ∧ (p, tupObj [kv, v]) ∈ nw
  | _, _, .nil, j, p, h => by simp at h
  | _, _, .cons hk hm r, 0, p, h => by simp at h; subst h; exact ⟨_, _, _, rfl, hk, hm⟩
  | _, _, .cons hk hm r, j + 1, p, h => by simp at h; simpa using r.get j p h
theorem eq_pairs {w : World} {A : Around} {E : Value → Shared → Prop} {s : Shared} {h₀ : Heap} {L F G : Addr} {nw : Led} {es : List (PKey × Value)} {Q : Value → Shared → Prop} (N : News h₀ L s.heap nw) (h1 : PairsIn nw F es) (h2 : PairsIn nw G es) (hu : A.units + 4 < cLine)
    (h : Q (.bool true) s) : wpAny (model PySem.Challenge.rw_pq0681_01.row.prog w) A (compareOp .Eq (.ref F) (.ref G)) Q E s := by
  obtain ⟨ps, c, hF, hps⟩ := h1
  obtain ⟨qs, c2, hG, hqs⟩ := h2
  have l1 := hps.len
  have l2 := hqs.len
  have := eq_listAt (prog := PySem.Challenge.rw_pq0681_01.row.prog) (w := w) (A := A) (E := E) (s := s) (l := F) (b := G) (items := (ps.map Value.ref).toArray) (items2 := (qs.map Value.ref).toArray) (e := fun _ => true) (Q := Q) ⟨_, (N _ hF).1, rfl, _, rfl⟩ ⟨_, (N _ hG).1, rfl, _, rfl⟩ (by simp [l1, l2]) (by omega)
    (fun j h1' h2' => by
      simp only [List.size_toArray, List.length_map] at h1' h2'
      obtain ⟨k, v, kv, e1, e2, e3⟩ := hps.get j _ (List.getElem?_eq_getElem h1')
      obtain ⟨k', v', kv', f1, f2, f3⟩ := hqs.get j _ (List.getElem?_eq_getElem h2')
      rw [e1] at f1
      obtain ⟨rfl, rfl⟩ : k = k' ∧ v = v' := by injection f1 with f1; injection f1; exact ⟨by assumption, by assumption⟩
      simp only [List.getElem_toArray, List.getElem_map]
      exact EqAt_pair N e3 f3 e2 f2 (by show A.units + 1 < cLine; omega))
  refine this ?_
  rw [show (List.range (ps.map Value.ref).toArray.size).all (fun _ => true) = true from by simp]
  exact h

end
section
open PySem.SeqAt PySem.Builtin
/-! repr of a pair (key, int) -/
theorem slot_bytes_repr : Slot "bytes" "__repr__" "bytes.__repr__" :=
  .of (owner := "bytes") (n := "__repr__") (by rw [typeLookup_type, builtinLookup_eq_fast]; kernel_rfl) (by decide +kernel) (by decide +kernel) (by decide +kernel)
    (by first | exact .inl (by decide +kernel) | exact .inr (by decide +kernel)) (by rw [isSubtype_type]; kernel_rfl)
theorem entry_bytes_repr : entryFor table "bytes.__repr__" = some Builtin.«bytes.__repr__» := entryFor_of_tree (by kernel_rfl)
theorem args_bytes_repr_1 (a : Value) : argsOk "bytes.__repr__" ⟨[a], []⟩ := by
  unfold argsOk; kernel_rfl
theorem gives_bytes_repr (b : Array UInt8) (t : Tok) (h : b.size ≤ 100) : Gives («bytes.__repr__» ⟨[.bytes b t], []⟩) (.str (Bytes.literal b)) := by
  refine .of_eq ?_
  show (do retStr (← Bytes.literalAsked b)) = _
  unfold Bytes.literalAsked
  have h1 : Bytes.tooLong (4 * b.size + 3 + 0) = false := by
    unfold Bytes.tooLong
    rw [decide_eq_false_iff_not, sizeLine_eq]
    omega
  rw [h1]
  rfl
section
variable {prog : Program} {w : World} {A : Around} {E : Value → Shared → Prop} {s : Shared}
theorem pyReprObj_bytes {b : Array UInt8} {t : Tok} {Q : Value → Shared → Prop} (hb : b.size ≤ 100) (h : Q (.str (Bytes.literal b) s.toks) { s with toks := s.toks + 1 }) (hx : (Bytes.literal b).length ≤ sizeLine) : wpAny (model prog w) A (pyReprObj (.bytes b t)) Q E s :=
  wpAny_pyReprObj_gives (typeIs_bytes s b t) slot_bytes_repr entry_bytes_repr (args_bytes_repr_1 _) (gives_bytes_repr b t hb) h (hx := hx)
theorem ReprIs_bytes (b : Array UInt8) (t : Tok) (hb : b.size ≤ 100) (hsz : (Bytes.literal b).length ≤ sizeLine) : ReprIs prog w (.bytes b t) (Bytes.literal b) := fun n hn _ _ _ _ h => by
  have hn' : n ≤ sizeLine := by omega
  rw [pyReprUnder_leaf (v := .bytes b t) hn' (fun _ e => nomatch e)]
  unfold pyRepr
  exact wpAny_bind (pyReprObj_bytes hb (wpAny_pure (h _)) hsz)
noncomputable def kText : PKey → Str
  | .int i => toString i
  | .bts b => Bytes.literal b.toArray
noncomputable def pText (k : PKey) (i : Int) : Str := tupleText [kText k, toString i]
noncomputable def SmallK (k : PKey) : Prop := (kText k).length ≤ 1000 ∧ match k with
  | .int j => j.natAbs.log2 < 1920
  | .bts b => b.length ≤ 100
structure SmallE (x : PKey × Value) : Prop where
  key : SmallK x.1
  val : ∃ i t, x.2 = .int i t ∧ i.natAbs.log2 < 1920 ∧ (pText x.1 i).length ≤ 1000
theorem ReprIs_kv {kv : Value} {k : PKey} (hk : KV kv (some k)) (hs : SmallK k) : ReprIs prog w kv (kText k) := by
  obtain ⟨h1, h2⟩ := hs
  cases hk with
  | int i t => exact ReprIs.int t h2
  | bts b t =>
    have e : b.toList.toArray = b := by simp
    have := ReprIs_bytes (prog := prog) (w := w) b t (by simpa using h2) (by
      have z : (Bytes.literal b.toList.toArray).length ≤ 1000 := h1
      rw [e] at z; rw [sizeLine_eq]; omega)
    show ReprIs prog w _ (Bytes.literal b.toList.toArray)
    rw [e]; exact this
theorem repr_pair {h₀ : Heap} {L p : Addr} {m : Str → Option Value} {news : Led} {kv : Value} {k : PKey} {i : Int} {t : Tok} {Q : Value → Shared → Prop} (F : Fr h₀ L s.heap m) (N : News h₀ L s.heap news) (hp : (p, tupObj [kv, .int i t]) ∈ news) (hk : KV kv (some k)) (hs : SmallE (k, .int i t))
    (hg : A.guards = some []) (hu : A.units + 4 < cLine) (hQ : ∀ h' u tk, Fr h₀ L h' m → News h₀ L h' news → Q (.str (pText k i) u) { s with heap := h', toks := tk }) :
    wpAny (model prog w) A (call (.builtin "repr") [.ref p]) Q E s := by
  obtain ⟨h1, i', t', h2, h3, h4⟩ := hs
  obtain ⟨rfl, rfl⟩ : i = i' ∧ t = t' := by injection h2 with h2 h2'; exact ⟨h2, h2'⟩
  have hz : (pText k i).length ≤ sizeLine := by
    have z : (pText k i).length ≤ 1000 := h4
    rw [sizeLine_eq]; omega
  refine call_repr_slot (by omega) ⟨_, (N _ hp).1, rfl⟩ PySem.F.slot_tuple_repr ?_
  refine call_tuple_reprK (h₀ := s.heap) (d := 0) (as := []) (ts := [kText k, toString i]) (N _ hp).1 rfl rfl (by simp) ?_ (g := []) hg (fun b _ => Clear.nil b) (by show A.units + 1 + 1 < cLine; omega) (fun _ _ e => e) (fun h' u tk hkp => ?_) hz
  · exact .cons (ReprK.of_is (ReprIs_kv hk h1) _ _ _) (.cons (ReprK.of_is (ReprIs.int t h3) _ _ _) .nil)
  · exact ⟨_, _, rfl, hQ h' u tk (F.keptAll hkp) (N.grown hkp)⟩
end

end
section
open PySem.SeqAt PySem.Builtin PySem.Spec
/-! the texts of a list of pairs, by a comprehension -/
noncomputable def valI : Value → Int
  | .int i _ => i
  | _ => 0
noncomputable def eText (x : PKey × Value) : Str := pText x.1 (valI x.2)
theorem strs_snoc : ∀ {vs : List Value} {ys : List Str}, StrsAre vs ys → ∀ (x : Str) (t : Tok), StrsAre (vs ++ [.str x t]) (ys ++ [x])
  | _, _, .nil, x, t => .cons x t .nil
  | _, _, .cons y u r, x, t => .cons y u (strs_snoc r x t)
noncomputable def leS (a b : Str) : Prop := a.cps.toList ≤ b.cps.toList
theorem leS_iff (a b : Str) : ltCps b.cps.toList a.cps.toList = false ↔ leS a b := by
  rw [ltCps_eq, decide_eq_false_iff_not]; exact List.not_lt
theorem leS_antisymm {a b : Str} (h1 : leS a b) (h2 : leS b a) : a = b := by
  have e := List.le_antisymm h1 h2
  obtain ⟨a⟩ := a
  obtain ⟨b⟩ := b
  exact congrArg _ (Array.toList_inj.mp e)
theorem rising_pw : ∀ (l : List Str) (p : Str), risingS p l = true → (p :: l).Pairwise leS
  | [], p, _ => List.pairwise_singleton _ _
  | x :: r, p, h => by
    unfold risingS at h
    rw [Bool.and_eq_true, Bool.not_eq_true', leS_iff] at h
    have ih := rising_pw r x h.2
    refine List.pairwise_cons.mpr ⟨fun y hy => ?_, ih⟩
    rcases List.mem_cons.mp hy with rfl | hy
    · exact h.1
    · exact List.le_trans h.1 ((List.pairwise_cons.mp ih).1 y hy)
theorem sorted_pw : ∀ (l : List Str), sortedS l = true → l.Pairwise leS
  | [], _ => List.Pairwise.nil
  | x :: r, h => rising_pw r x h
theorem sorted_unique {a b : List Str} (p : a.Perm b) (ha : sortedS a = true) (hb : sortedS b = true) : a = b :=
  List.Perm.eq_of_pairwise (le := leS) (fun _ _ _ _ h1 h2 => leS_antisymm h1 h2) (sorted_pw a ha) (sorted_pw b hb) p
theorem EqAt_strs {A : Around} {s : Shared} (x : Str) (t u : Tok) : EqAt A s (.str x t) (.str x u) true := by
  have := EqAt.str_str (A := A) (s := s) x t x u
  rwa [beq_self_eq_true] at this
theorem eq_strs {w : World} {A : Around} {E : Value → Shared → Prop} {s : Shared} {h₀ : Heap} {L F G : Addr} {nw : Led} {vs us : List Value} {ss : List Str} {c c2 : Nat} {Q : Value → Shared → Prop} (N : News h₀ L s.heap nw) (h1 : (F, listOf vs.toArray c) ∈ nw) (h2 : (G, listOf us.toArray c2) ∈ nw)
    (a1 : StrsAre vs ss) (a2 : StrsAre us ss) (hu : A.units + 4 < cLine) (h : Q (.bool true) s) : wpAny (model PySem.Challenge.rw_pq0681_01.row.prog w) A (compareOp .Eq (.ref F) (.ref G)) Q E s := by
  have l1 := a1.length
  have l2 := a2.length
  have := eq_listAt (prog := PySem.Challenge.rw_pq0681_01.row.prog) (w := w) (A := A) (E := E) (s := s) (l := F) (b := G) (items := vs.toArray) (items2 := us.toArray) (e := fun _ => true) (Q := Q) ⟨_, (N _ h1).1, rfl, _, rfl⟩ ⟨_, (N _ h2).1, rfl, _, rfl⟩ (by simp [l1, l2]) (by omega)
    (fun j h1' h2' => by
      simp only [List.size_toArray] at h1' h2'
      have hj : j < ss.length := by omega
      obtain ⟨t, e1⟩ := a1.get j _ (List.getElem?_eq_getElem hj)
      obtain ⟨u, e2⟩ := a2.get j _ (List.getElem?_eq_getElem hj)
      rw [List.getElem?_eq_getElem h1'] at e1
      rw [List.getElem?_eq_getElem h2'] at e2
      simp only [List.getElem_toArray]
      rw [Option.some.inj e1, Option.some.inj e2]
      exact EqAt_strs _ _ _)
  refine this ?_
  rw [show (List.range vs.toArray.size).all (fun _ => true) = true from by simp]
  exact h
theorem reprs_rest {prog : Program} {w : World} {A : Around} {h₀ : Heap} {L : Addr} {m : Str → Option Value} {env : Env} {elt : Expr} {x : Str} {scope : Scope} {cl : List (Str × Addr)} {s : Shared} {S : Led → Prop} {Fin : List Value → Led → Prop} {news : Led} {ps : List Addr} {es : List (PKey × Value)}
    (hps : PairsAt news ps es)
    (turn : ∀ k v kv p I oI C oC D m₂ ys h tk (E' : Value → Shared → Prop), (k, v) ∈ es → KV kv (some k) → (p, tupObj [kv, v]) ∈ news → LCg.NsObj oC m₂ → m₂ x = some (.ref p) → Fr h₀ L h m → News h₀ L h ((I, oI) :: (C, oC) :: (D, LCg.lst ys) :: news) → LCg.Off3 I C D news → ((@Ne Nat I C) ∧ (@Ne Nat I D) ∧ (@Ne Nat C D)) →
      wpAny (model prog w) A (eval elt (compEnvC scope cl C env)) (LCg.CompEnd h₀ L m { s with heap := h, toks := tk } I oI C oC D (LCg.lst ys) S (fun y news' => news' = news ∧ ∃ u, y = .str (eText (k, v)) u)) E' { s with heap := h, toks := tk })
    (fin : ∀ vs, StrsAre vs (es.map eText) → Fin vs news) :
    LCg.CompRest prog w A h₀ L m env elt x scope cl s S (fun i v => (ps.map Value.ref).toArray[i]? = some v) Fin (ps.map Value.ref).toArray.size 0 [] news := by
  have hlen := hps.len
  have key : ∀ (j i : Nat) (ys : List Value), i + j = es.length → StrsAre ys ((es.take i).map eText) →
      LCg.CompRest prog w A h₀ L m env elt x scope cl s S (fun i v => (ps.map Value.ref).toArray[i]? = some v) Fin j i ys news := by
    intro j
    induction j with
    | zero =>
      intro i ys hi hy
      have : i = es.length := by omega
      subst this
      rw [List.take_length] at hy
      exact LCg.CompRest.zero (fin ys hy)
    | succ j ih =>
      intro i ys hi hy
      refine LCg.CompRest.succ ?_
      intro v I oI C oC D m₂ h tk E' hv hC hx F N off ne
      have hip : i < ps.length := by omega
      obtain ⟨k, vv, kv, e1, e2, e3⟩ := hps.get i _ (List.getElem?_eq_getElem hip)
      have hvv : v = .ref ps[i] := by
        have : (ps.map Value.ref).toArray[i]? = some v := hv
        simp [hip] at this
        exact this.symm
      subst hvv
      refine wpAny_mono (turn k vv kv _ I oI C oC D m₂ _ h tk E' (List.mem_of_getElem? e1) e2 e3 hC hx F N off ne) (fun y s₂ hq => ?_) fun _ _ e => e
      obtain ⟨h', tk', nw', e, F', N', off', hS, rfl, u, rfl⟩ := hq
      refine ⟨h', tk', nw', e, F', N', off', hS, ih (i + 1) _ (by omega) ?_⟩
      rw [List.take_add_one, e1, List.map_append]
      exact strs_snoc hy _ _
  rw [List.size_toArray, List.length_map, hlen]
  exact key es.length 0 [] (by omega) .nil

end
section
open PySem.SeqAt PySem.Builtin
theorem wd_P35_0 : True := by
  k_with_none
  exact trivial
theorem wd_P35_62 : True := by
  k_with "KD" => first | exact dlt (by assumption) (by first | decide | omega) | exact dlt1 (by assumption) (by first | decide | omega) | exact dlt0 (by assumption) | ktr_room
  k_with "KU" => first | exact ult (by assumption) (by first | decide | omega) | ktr_units
  k_with "ENTER" => (refine' enter_ ?zqk1 ?zqk2 ?zqk3 ?zqk4 ?zqk5 ?zqkA ?zqkF ?zqkK ?zqk6 ?zqk7 ?zqk8 ?zqk9 ?zqkB ?_ ?zqc2 ?zqc3 ?zqc4 ?zqc5; (case zqkA => exact rfl); (case zqkF => exact rfl); (case zqkK => first | exact rfl | assumption); (case zqk1 => k_asm); (case zqk2 => k_asm); (case zqk3 => k_asm); (case zqk4 => k_asm); (case zqk5 => k_asm); (case zqk6 => k_is); (case zqk7 => k_is); (case zqk8 => walk_at "KD"); (case zqk9 => first | exact BindsTo.of_eq rfl | exact binds_K (by k_in) rfl (by k_is) rfl rfl rfl | fail "ENTER: no rule for these arguments"); (case zqc5 => decide); (case zqkB => exact locs rfl); (case zqc2 => exact rfl); (case zqc3 => exact rfl); (case zqc4 => exact rfl); k_whole; intro g' L' h' tk' FG' mm F' N' B' X' T' qk ek)
  k_with "call ref" => (k_here; k_dflt (first | (refine' call_cls0 ?zqk1 ?zqk2 ?zqk3 ?zqk4 ?zqk5 ?_; (case zqk1 => k_asm); (case zqk2 => k_asm); (case zqk3 => k_asm); (case zqk4 => k_is); (case zqk5 => k_is); k_whole; intro x' d' h' F' N' l1 l2; (try k_lt l1); (try k_lt2 l2); (try k_sweep)) | (refine' call_cls ?zqk1 ?zqk2 ?zqk3 ?zqk4 ?zqk5 ?zqk6 ?_; (case zqk1 => k_asm); (case zqk2 => k_asm); (case zqk3 => k_asm); (case zqk4 => k_is); (case zqk5 => k_is); (case zqk6 => k_is); k_whole; intro x' d' h' F' N' l1 l2; (try k_lt l1); (try k_lt2 l2); (try k_sweep); walk_at "ENTER") | (refine' call_meth ?zqk1 ?zqk2 ?_; (case zqk1 => k_asm); (case zqk2 => k_mem); k_whole; walk_at "ENTER") | (refine wpAny_call ?_; walk_at "ENTER")))
  k_with "call builtin:len" => (k_here; (with_reducible show wpAny _ _ (call (Value.builtin "len") [Value.ref _]) _ _ _); k_dflt (refine' kst_len ?zqk1 ?zqk2 ?zqk3 ?zqk4 ?_; (case zqk1 => k_asm); (case zqk2 => k_mem); (case zqk3 => first | assumption | exact rfl); (case zqk4 => omega); k_whole))
  k_with "WhileStep2" => (first | (with_reducible show WhileStep2 _ _ _ _ _ _ (Flow.ret _) _) | (with_reducible show WhileStep2 _ _ _ _ _ _ Flow.brk _)); (dsimp only [WhileStep2])
  k_with "execs cons" => (k_here; refine wpAny_execs_cons (foldQ ?_); intro qs)
  k_with "storeName" => (k_here; (try dsimp only); k_dflt (refine' store_ ?zqF ?zqN ?_ ?zqa ?zqb; (case zqF => k_asm); (case zqN => k_asm); (case zqa => first | exact rfl | assumption); (case zqb => rfl); k_whole; intro h' tk' mm F' N'; (try k_sweep)))
  k_with "exec While Compare cons nil" => refine Halt.go ?_
  k_with "pyIter ref" => refine Halt.go ?_
  k_with "call type:enumerate" => refine Halt.go ?_
  k_with "KswEnd" => refine Halt.at (k := "KswEnd") (by assumption) ?_
  k_with "subscriptTail" => refine Halt.at (k := "subscriptTail") (by assumption) ?_
  k_with "eval ListComp" => refine Halt.at (k := "eval ListComp") (by assumption) ?_
  k_with "CompSrc" => refine Halt.at (k := "CompSrc") (by assumption) ?_
  k_with "CompEnd" => refine Halt.at (k := "CompEnd") (by assumption) ?_
  k_with "call ref" => refine Halt.at (k := "call ref") (by assumption) ?_
  k_with "call builtin:sorted" => refine Halt.at (k := "call builtin:sorted") (by assumption) ?_
  k_with "call builtin:repr" => refine Halt.at (k := "call builtin:repr") (by assumption) ?_
  k_with "unpackItems ref" => refine Halt.at (k := "unpackItems ref") (by assumption) ?_
  k_with "compareOp Eq ref ref" => refine Halt.at (k := "compareOp Eq ref ref") (by assumption) ?_
  k_with "call type:str" => refine Halt.at (k := "call type:str") (by assumption) ?_
  k_with "K4" => ((case zqk1 => k_asm); (case zqk2 => k_asm); (case zqk3 => k_asm); (case zqk4 => k_asm))
  k_with "K56" => ((case zqk5 => first | assumption | (with_unfolding_all assumption)); (case zqk6 => first | assumption | (with_unfolding_all assumption)))
  k_with "KN" => (k_whole; intro h' tj' n' F' N' hT' hK'; (try dsimp only); (try k_sweep))
  k_with "getAttr ref" => (k_here; (with_reducible show wpAny _ _ (getAttr (Value.ref _) (PySem.Str.ofString "free") _) _ _ _); k_dflt (refine' get_free ?zqk1 ?zqk2 ?zqk3 ?zqk4 ?_; walk_at "K4"; k_whole; intro tk' tj'; (try dsimp only)))
  k_with "getAttr ref" => (k_here; (with_reducible show wpAny _ _ (getAttr (Value.ref _) (PySem.Str.ofString "size") _) _ _ _); k_dflt (refine' get_size ?zqk1 ?zqk2 ?zqk3 ?zqk4 ?_; walk_at "K4"; k_whole; intro tk' tj'; (try dsimp only)))
  k_with "getAttr ref" => (k_here; (with_reducible show wpAny _ _ (getAttr (Value.ref _) (PySem.Str.ofString "array") _) _ _ _); k_dflt (refine' get_array ?zqk1 ?zqk2 ?zqk3 ?zqk4 ?_; walk_at "K4"; k_whole; intro tj'; (try dsimp only)))
  k_with "getAttr ref" => (k_here; (with_reducible show wpAny _ _ (getAttr (Value.ref _) (PySem.Str.ofString "nodes") _) _ _ _); k_dflt (refine' get_nodes ?zqk1 ?zqk2 ?zqk3 ?zqk4 ?_; walk_at "K4"; k_whole; intro tj'; (try dsimp only)))
  k_with "getAttr ref" => (k_here; (with_reducible show wpAny _ _ (getAttr (Value.ref _) (PySem.Str.ofString "key") _) _ _ _); k_dflt (first | (refine' get_key_none ?zqk1 ?zqk2 ?zqk3 ?zqk4 ?zqk5 ?zqk6 ?zqk7 ?_; walk_at "K4"; walk_at "K56"; (case zqk7 => assumption); k_whole; intro tj'; (try dsimp only)) | (refine' get_key_some ?zqk1 ?zqk2 ?zqk3 ?zqk4 ?zqk5 ?zqk6 ?zqk7 ?_; walk_at "K4"; walk_at "K56"; (case zqk7 => assumption); k_whole; intro kv' tj' hkv'; (try dsimp only)) | (refine' get_key_any ?zqk1 ?zqk2 ?zqk3 ?zqk4 ?zqk5 ?zqk6 ?_; walk_at "K4"; walk_at "K56"; k_whole; intro kv' tj' hkv'; (try dsimp only))))
  k_with "getAttr ref" => (k_here; (with_reducible show wpAny _ _ (getAttr (Value.ref _) (PySem.Str.ofString "value") _) _ _ _); k_dflt (refine' get_value ?zqk1 ?zqk2 ?zqk3 ?zqk4 ?zqk5 ?zqk6 ?_; walk_at "K4"; walk_at "K56"; k_whole; intro tj'; (try dsimp only)))
  k_with "getAttr ref" => (k_here; (with_reducible show wpAny _ _ (getAttr (Value.ref _) (PySem.Str.ofString "next") _) _ _ _); k_dflt (refine' get_next ?zqk1 ?zqk2 ?zqk3 ?zqk4 ?zqk5 ?zqk6 ?_; walk_at "K4"; walk_at "K56"; k_whole; intro tk' tj'; (try dsimp only)))
  k_with "setAttr ref" => (k_here; (with_reducible show wpAny _ _ (setAttr (Value.ref _) (PySem.Str.ofString "free") _) _ _ _); k_dflt (refine' set_free ?zqk1 ?zqk2 ?zqk3 ?zqk4 ?_; walk_at "K4"; walk_at "KN"))
  k_with "setAttr ref" => (k_here; (with_reducible show wpAny _ _ (setAttr (Value.ref _) (PySem.Str.ofString "size") _) _ _ _); k_dflt (refine' set_size ?zqk1 ?zqk2 ?zqk3 ?zqk4 ?_; walk_at "K4"; walk_at "KN"))
  k_with "setAttr ref" => (k_here; (with_reducible show wpAny _ _ (setAttr (Value.ref _) (PySem.Str.ofString "flags") _) _ _ _); k_dflt (refine' set_flags ?zqk1 ?zqk2 ?zqk3 ?zqk4 ?_; walk_at "K4"; walk_at "KN"))
  k_with "setAttr ref" => (k_here; (with_reducible show wpAny _ _ (setAttr (Value.ref _) (PySem.Str.ofString "log_nodes") _) _ _ _); k_dflt (refine' set_log_nodes ?zqk1 ?zqk2 ?zqk3 ?zqk4 ?_; walk_at "K4"; walk_at "KN"))
  k_with "setAttr ref" => (k_here; (with_reducible show wpAny _ _ (setAttr (Value.ref _) (PySem.Str.ofString "key") _) _ _ _); k_dflt (refine' set_key ?zqk1 ?zqk2 ?zqk3 ?zqk4 ?zqk5 ?zqk6 ?zqk7 ?_; walk_at "K4"; walk_at "K56"; (case zqk7 => first | assumption | exact KV.none); walk_at "KN"))
  k_with "setAttr ref" => (k_here; (with_reducible show wpAny _ _ (setAttr (Value.ref _) (PySem.Str.ofString "value") _) _ _ _); k_dflt (refine' set_value ?zqk1 ?zqk2 ?zqk3 ?zqk4 ?zqk5 ?zqk6 ?zqk7 ?_; walk_at "K4"; walk_at "K56"; (case zqk7 => first | assumption | rfl); walk_at "KN"))
  k_with "setAttr ref" => (k_here; (with_reducible show wpAny _ _ (setAttr (Value.ref _) (PySem.Str.ofString "next") _) _ _ _); k_dflt (refine' set_next ?zqk1 ?zqk2 ?zqk3 ?zqk4 ?zqk5 ?zqk6 ?_; walk_at "K4"; walk_at "K56"; walk_at "KN"))
  k_with "getMethod ref" => (k_here; (with_reducible show wpAny _ _ (getMethod (Value.ref _) _ _) _ _ _); k_dflt (refine' tab_meth ?zqk1 ?zqk2 ?zqk3 ?zqk4 ?zqk5 ?zqk6 ?zqk7 ?zqk8 ?_; walk_at "K4"; (case zqk5 => k_is); (case zqk6 => k_is); (case zqk7 => k_is); (case zqk8 => decide +kernel); k_whole))
  k_with "call builtin:len" => (k_here; (with_reducible show wpAny _ _ (call (Value.builtin "len") [Value.ref _]) _ _ _); k_dflt (first | (refine' len_nodes ?zqk3 ?zqk4 ?_; (case zqk3 => k_asm); (case zqk4 => k_asm); k_whole; intro tk' tj'; (try dsimp only)) | (refine' len_arr ?zqk3 ?zqk4 ?_; (case zqk3 => k_asm); (case zqk4 => k_asm); k_whole; intro tk' tj'; (try dsimp only))))
  k_with "subscriptTail" => (k_here; (with_reducible show wpAny _ _ (subscriptTail _ _ (Value.ref _) (Value.int _ _)) _ _ _); k_dflt (first | (refine' item_node ?zqk3 ?zqk4 ?zqk5 ?zqk6 ?_ ?zqk7; (case zqk3 => k_asm); (case zqk4 => k_asm); (case zqk5 => assumption); (case zqk6 => first | assumption | omega); (case zqk7 => with_unfolding_all rfl); k_whole) | (refine' item_arr ?zqk3 ?zqk4 ?zqk5 ?zqk6 ?_ ?zqk7; (case zqk3 => k_asm); (case zqk4 => k_asm); (case zqk5 => assumption); (case zqk6 => first | assumption | omega); (case zqk7 => with_unfolding_all rfl); k_whole)))
  k_with "setItem ref int" => (k_here; (with_reducible show wpAny _ _ (setItem (Value.ref _) (Value.int _ _) _) _ _ _); k_dflt (refine' set_arr ?zqk1 ?zqk3 ?zqk4 ?zqk5 ?zqk6 ?_; (case zqk1 => k_asm); (case zqk3 => k_asm); (case zqk4 => k_asm); (case zqk5 => omega); (case zqk6 => (try dsimp only); omega); k_whole; intro h' n' F' N' hT' hK'; (try dsimp only); (try k_sweep)))
  k_with "call builtin:list.append" => (k_here; (with_reducible show wpAny _ _ (call (Value.builtin _) [Value.ref _, _]) _ _ _); k_dflt (refine' app_arr ?zqk1 ?zqk3 ?zqk4 ?zqk5 ?_; (case zqk1 => k_asm); (case zqk3 => k_asm); (case zqk4 => k_asm); (case zqk5 => (try dsimp only); omega); k_whole; intro h' n' F' N' hT' hK'; (try dsimp only); (try k_sweep)))
  k_with "compareOp Is" => (k_here; (with_reducible show wpAny _ _ (compareOp CmpOp.Is _ Value.none) _ _ _); k_dflt (refine' kv_isnone ?zqk1 ?_; (case zqk1 => assumption); k_whole))
  k_with "exec For Name Name cons nil" => (k_here; (rename Fr _ _ _ _ => lF'); (with_unfolding_all refine' For_invVF lF' ?zqk1 ?zqk2 ?_; (case zqk1 => exact rfl); (case zqk2 => exact rfl); k_whole))
  k_with "exec For Name Call cons nil" => (k_here; (rename Fr _ _ _ _ => lF'); (with_unfolding_all refine' For_invVF lF' ?zqk1 ?zqk2 ?_; (case zqk1 => exact rfl); (case zqk2 => exact rfl); k_whole))
  k_with "exec For Name Attribute cons nil" => (k_here; (rename Fr _ _ _ _ => lF'); (with_unfolding_all refine' For_invVF lF' ?zqk1 ?zqk2 ?_; (case zqk1 => exact rfl); (case zqk2 => exact rfl); k_whole))
  k_with "TP" => ((first | (with_reducible show Mine.TP _ _ _ _ _ _ (Flow.ret _) _) | (with_reducible show Mine.TP _ _ _ _ _ _ Flow.brk _) | (with_reducible show Mine.TP _ _ _ _ _ _ Flow.next _) | (with_reducible show Mine.TP _ _ _ _ _ _ Flow.cont _)); (dsimp only [Mine.TP]))
  k_with "compareOp Is" => (k_here; (with_reducible show wpAny _ _ (compareOp CmpOp.Is _ Value.none) _ _ _); k_dflt (first | (refine' is_eq ?zqk1 ?_; (case zqk1 => assumption); k_whole) | (refine' is_ne ?zqk1 ?_; (case zqk1 => assumption); k_whole)))
  k_with "compareOp IsNot" => (k_here; (with_reducible show wpAny _ _ (compareOp CmpOp.IsNot _ Value.none) _ _ _); k_dflt (first | (refine' isnot_eq ?zqk1 ?_; (case zqk1 => assumption); k_whole) | (refine' isnot_ne ?zqk1 ?_; (case zqk1 => assumption); k_whole)))
  exact trivial

/-! _law_sizes_right: the state -/
structure St (nw : Led) (d f t : Addr) (xs : List Int) (k : Nat) (Y : Lay) (T : Tab) : Prop where
  dice : DiceAt nw d f xs k
  tab : TabIn nw t Y T
  offd : d ∉ touch Y
  offf : f ∉ touch Y
theorem DiceAt.mono {nw nw' : Led} {d f : Addr} {xs : List Int} {k : Nat} (h : DiceAt nw d f xs k) (hs : ∀ p ∈ nw, p ∈ nw') : DiceAt nw' d f xs k := by
  obtain ⟨c, tk, hm, ⟨vs, c2, hi, hf⟩, hne⟩ := h
  exact ⟨c, tk, hs _ hm, ⟨vs, c2, hi, hs _ hf⟩, hne⟩
theorem St.mono {nw nw' : Led} {d f t : Addr} {xs : List Int} {k : Nat} {Y : Lay} {T : Tab} (h : St nw d f t xs k Y T) (hs : ∀ p ∈ nw, p ∈ nw') : St nw' d f t xs k Y T :=
  ⟨h.dice.mono hs, h.tab.mono hs, h.offd, h.offf⟩
theorem al_touch (Y : Lay) : Y.al ∈ touch Y := .tail _ (.head _)
theorem d_touch (Y : Lay) : Y.d ∈ touch Y := .head _
theorem ns_touch {Y : Lay} {p : Addr × Addr} (h : p ∈ Y.ns) : p.2 ∈ touch Y := .tail _ (.tail _ (List.mem_map.mpr ⟨p, h, rfl⟩))
theorem St.thrown {h₀ h : Heap} {L : Addr} {nw nw' : Led} {d f t : Addr} {xs : List Int} {k j : Nat} {Y : Lay} {T : Tab} (N : News h₀ L h nw) (hS : St nw d f t xs k Y T) (hD : DiceAt nw' d f xs j) (hK : KeepBut d nw nw') (hnl : Y.nl ≠ d) : St nw' d f t xs j Y T := by
  obtain ⟨c, tk, hm, _, _⟩ := hS.dice
  refine ⟨hD, hS.tab.butL (vs := [.ref f, .int k tk]) N hm hK (fun e => hS.offd (e ▸ al_touch Y)) hnl, hS.offd, hS.offf⟩
theorem St.nl {h₀ h : Heap} {L : Addr} {nw : Led} {d f t : Addr} {xs : List Int} {k : Nat} {Y : Lay} {T : Tab} (N : News h₀ L h nw) (hS : St nw d f t xs k Y T) : Y.nl ≠ d := by
  obtain ⟨c, tk, hm, _, _⟩ := hS.dice
  obtain ⟨cn, hn⟩ := hS.tab.nds
  rintro e
  have := News.fn N hn (by rw [e]; exact hm)
  have e2 : (Y.ns.map fun p => Value.ref p.1).toArray = #[.ref f, .int k tk] := by injection congrArg Obj.data this
  have e3 := congrArg (fun a : Array Value => a.toList[1]?) e2
  simp only [List.toList_toArray, List.getElem?_map, List.getElem?_cons_succ, List.getElem?_cons_zero] at e3
  obtain ⟨p, _, q⟩ := Option.map_eq_some_iff.mp e3
  cases q
theorem St.resized {nw nw' : Led} {d f t : Addr} {xs : List Int} {k : Nat} {Y Y' : Lay} {T T' : Tab} (hS : St nw d f t xs k Y T) (hT : TabIn nw' t Y' T') (hK : Step Y nw Y' nw') : St nw' d f t xs k Y' T' := by
  obtain ⟨⟨c, tk, hm, ⟨vs, c2, hi, hf⟩, hne⟩, _, h1, h2⟩ := hS
  exact ⟨⟨c, tk, (hK.off hm h1).1, ⟨vs, c2, hi, (hK.off hf h2).1⟩, hne⟩, hT, (hK.off hm h1).2, (hK.off hf h2).2⟩
theorem tup_dict {vs : List Value} {es : List DictEntry} {n : Nat} : tupObj vs ≠ dictOf es n := fun e => by
  have := congrArg Obj.cls e
  simp [tupObj, dictOf] at this
theorem tup_off {h₀ h : Heap} {L p t : Addr} {nw : Led} {vs : List Value} {Y : Lay} {T : Tab} (N : News h₀ L h nw) (hT : TabIn nw t Y T) (hp : (p, tupObj vs) ∈ nw) : p ∉ touch Y := fun hm => by
  obtain ⟨o, ho, hd⟩ := hT.dict
  obtain ⟨c, ha⟩ := hT.arr
  rcases List.mem_cons.mp hm with rfl | hm
  · cases ho; exact tup_dict (News.fn N hp hd)
  · rcases List.mem_cons.mp hm with rfl | hm
    · exact tup_list (News.fn N hp ha)
    · obtain ⟨q, hq, rfl⟩ := List.mem_map.mp hm
      obtain ⟨i, hi, e⟩ := List.mem_iff_getElem.mp hq
      have hlt : i < T.nodes.length := by rw [← hT.len]; exact hi
      obtain ⟨_, _, kv, o2, _, k3, k4⟩ := hT.node i q _ (by rw [List.getElem?_eq_getElem hi, e]) (List.getElem?_eq_getElem hlt)
      cases k3; exact tup_dict (News.fn N hp k4)
theorem PairsIn.mono {nw nw' : Led} {F : Addr} {es : List (PKey × Value)} (h : PairsIn nw F es) (hs : ∀ p ∈ nw, p ∈ nw') : PairsIn nw' F es := by
  obtain ⟨ps, c, hm, hp⟩ := h
  exact ⟨ps, c, hs _ hm, hp.mono fun _ _ q => hs _ q⟩
theorem PairsIn.but {h₀ h : Heap} {L d F : Addr} {nw nw' : Led} {es : List (PKey × Value)} {vs : List Value} {cd : Nat} (N : News h₀ L h nw) (hd : (d, listOf vs.toArray cd) ∈ nw) (h : PairsIn nw F es) (hK : KeepBut d nw nw') (hF : F ≠ d) : PairsIn nw' F es := by
  obtain ⟨ps, c, hm, hp⟩ := h
  exact ⟨ps, c, hK _ hm hF, hp.mono fun p o q => hK _ q fun e => tup_list (vs := o) (ws := vs) (n := cd) (News.fn N q (by rw [show p = d from e]; exact hd))⟩
theorem PairsIn.step {h₀ h : Heap} {L t F : Addr} {nw nw' : Led} {es : List (PKey × Value)} {Y Y' : Lay} {T : Tab} (N : News h₀ L h nw) (hT : TabIn nw t Y T) (h : PairsIn nw F es) (hK : Step Y nw Y' nw') (hF : F ∉ touch Y) : PairsIn nw' F es := by
  obtain ⟨ps, c, hm, hp⟩ := h
  exact ⟨ps, c, (hK.off hm hF).1, hp.mono fun p o q => (hK.off q (tup_off N hT q)).1⟩
theorem touch_old {t F : Addr} {nw : Led} {Y : Lay} {T : Tab} (hT : TabIn nw t Y T) (hF : ∀ q ∈ nw, q.1 < F) : F ∉ touch Y := fun hm => by
  obtain ⟨o, ho⟩ := hT.touch_mem hm
  exact Nat.lt_irrefl _ (hF _ ho)
noncomputable def slotOf (i : Int) : Int := [4194304 + 1, 15 * 2 ^ Int.toNat 30, 2, 0].getD i.toNat 0
noncomputable def placeOf (i : Int) : Int := [0, 4, 1048576 + 1, 15 * 2 ^ Int.toNat 30].getD i.toNat 0
theorem sub_menu {w : World} {A : Around} {E : Value → Shared → Prop} {s : Shared} {h₀ : Heap} {L l : Addr} {nw : Led} {a b c e k : Int} {u : Tok} {value slice : PySem.Expr} {Q : Value → Shared → Prop} (N : News h₀ L s.heap nw) (hC : ListAt l [a, b, c, e] nw) (h0 : 0 ≤ k) (h1 : k < 4) (h : ∀ t, Q (.int ([a, b, c, e].getD k.toNat 0) t) s)
    (hs : subscripted slice false (.ref l) (.int k u) = operate [.ref l, .int k u] (getItem (.ref l) (.int k u)) := by with_unfolding_all rfl) :
    wpAny (model PySem.Challenge.rw_pq0681_01.row.prog w) A (subscriptTail value slice (.ref l) (.int k u)) Q E s :=
  sub_cnt N hC h0 (by simpa using h1) (by omega) h hs
theorem sub_slot {w : World} {A : Around} {E : Value → Shared → Prop} {s : Shared} {h₀ : Heap} {L l : Addr} {nw : Led} {k : Int} {u : Tok} {value slice : PySem.Expr} {Q : Value → Shared → Prop} (N : News h₀ L s.heap nw) (hC : ListAt l [4194304 + 1, 15 * 2 ^ Int.toNat 30, 2, 0] nw) (h0 : 0 ≤ k) (h1 : k < 4) (h : ∀ t, Q (.int (slotOf k) t) s)
    (hs : subscripted slice false (.ref l) (.int k u) = operate [.ref l, .int k u] (getItem (.ref l) (.int k u)) := by with_unfolding_all rfl) :
    wpAny (model PySem.Challenge.rw_pq0681_01.row.prog w) A (subscriptTail value slice (.ref l) (.int k u)) Q E s := sub_menu N hC h0 h1 h hs
theorem sub_place {w : World} {A : Around} {E : Value → Shared → Prop} {s : Shared} {h₀ : Heap} {L l : Addr} {nw : Led} {k : Int} {u : Tok} {value slice : PySem.Expr} {Q : Value → Shared → Prop} (N : News h₀ L s.heap nw) (hC : ListAt l [0, 4, 1048576 + 1, 15 * 2 ^ Int.toNat 30] nw) (h0 : 0 ≤ k) (h1 : k < 4) (h : ∀ t, Q (.int (placeOf k) t) s)
    (hs : subscripted slice false (.ref l) (.int k u) = operate [.ref l, .int k u] (getItem (.ref l) (.int k u)) := by with_unfolding_all rfl) :
    wpAny (model PySem.Challenge.rw_pq0681_01.row.prog w) A (subscriptTail value slice (.ref l) (.int k u)) Q E s := sub_menu N hC h0 h1 h hs
theorem eq_room {w : World} {A : Around} {E : Value → Shared → Prop} {s : Shared} {h₀ : Heap} {L p q : Addr} {nw : Led} {a b c : Int} {t1 t2 t3 u1 u2 u3 : Tok} {Q : Value → Shared → Prop} (N : News h₀ L s.heap nw) (hp : (p, tupObj [.int a t1, .int b t2, .int c t3]) ∈ nw) (hq : (q, tupObj [.int a u1, .int b u2, .int c u3]) ∈ nw) (hu : A.units < cLine)
    (h : Q (.bool true) s) : wpAny (model PySem.Challenge.rw_pq0681_01.row.prog w) A (compareOp .Eq (.ref p) (.ref q)) Q E s := by
  have ei : ∀ (A : Around) (i : Int) (t u : Tok), EqAt A s (.int i t) (.int i u) true := fun A i t u => by
    have := EqAt.int_int (A := A) (s := s) i t i u
    rwa [beq_self_eq_true] at this
  refine eq_tupleAt (items := #[.int a t1, .int b t2, .int c t3]) (items2 := #[.int a u1, .int b u2, .int c u3]) (e := fun _ => true) ⟨_, (N _ hp).1, rfl, _, rfl⟩ ⟨_, (N _ hq).1, rfl, _, rfl⟩ hu (fun j h1' h2' => ?_) h
  match j with
  | 0 => exact ei _ _ _ _
  | 1 => exact ei _ _ _ _
  | 2 => exact ei _ _ _ _
  | j + 3 => exact absurd (show j + 3 < 3 from h1') (by omega)

end
section
theorem int_in (n : Nat) {x : Int} (h0 : 0 ≤ x) (h1 : x < n) : ∃ i : Fin n, x = (i.val : Int) := ⟨⟨x.toNat, (Int.toNat_lt h0).mpr h1⟩, (Int.toNat_of_nonneg h0).symm⟩
theorem in3 {x : Int} (h0 : 0 ≤ x) (h1 : x < 3) : x = 0 ∨ x = 1 ∨ x = 2 := by obtain ⟨i, rfl⟩ := int_in 3 h0 h1; revert i; decide
theorem in4 {x : Int} (h0 : 0 ≤ x) (h1 : x < 4) : x = 0 ∨ x = 1 ∨ x = 2 ∨ x = 3 := by obtain ⟨i, rfl⟩ := int_in 4 h0 h1; revert i; decide
theorem in5 {x : Int} (h0 : 0 ≤ x) (h1 : x < 5) : x = 0 ∨ x = 1 ∨ x = 2 ∨ x = 3 ∨ x = 4 := by obtain ⟨i, rfl⟩ := int_in 5 h0 h1; revert i; decide
theorem in6 {x : Int} (h0 : 0 ≤ x) (h1 : x < 6) : x = 0 ∨ x = 1 ∨ x = 2 ∨ x = 3 ∨ x = 4 ∨ x = 5 := by obtain ⟨i, rfl⟩ := int_in 6 h0 h1; revert i; decide
theorem in7 {x : Int} (h0 : 0 ≤ x) (h1 : x < 7) : x = 0 ∨ x = 1 ∨ x = 2 ∨ x = 3 ∨ x = 4 ∨ x = 5 ∨ x = 6 := by obtain ⟨i, rfl⟩ := int_in 7 h0 h1; revert i; decide
/-! hash chains, in plain Lean -/
noncomputable def ky (N : List PNode) (i : Nat) : Option PKey := (N[i]?).bind (·.key)
noncomputable def nx (N : List PNode) (i : Nat) : Int := ((N[i]?).map (·.next)).getD (-1)
noncomputable def mpN (n : Nat) (k : PKey) : Nat := (mainP n k).toNat
theorem mpN_cast {n : Nat} (hn : 0 < n) (k : PKey) : mainP n k = (mpN n k : Int) := by have := mainP_bound hn k; unfold mpN; omega
theorem mpN_lt {n : Nat} (hn : 0 < n) (k : PKey) : mpN n k < n := by have := mainP_bound hn k; unfold mpN; omega
theorem ky_of {N : List PNode} {i : Nat} {x : PNode} (h : N[i]? = some x) : ky N i = x.key := by unfold ky; rw [h]; rfl
theorem nx_of {N : List PNode} {i : Nat} {x : PNode} (h : N[i]? = some x) : nx N i = x.next := by unfold nx; rw [h]; rfl
theorem ky_lt {N : List PNode} {i : Nat} {k : PKey} (h : ky N i = some k) : i < N.length := by
  unfold ky at h
  obtain ⟨x, hx, _⟩ := Option.bind_eq_some_iff.mp h
  exact (List.getElem?_eq_some_iff.mp hx).1
theorem ky_get {N : List PNode} {i : Nat} {k : PKey} (h : ky N i = some k) : ∃ x, N[i]? = some x ∧ x.key = some k := Option.bind_eq_some_iff.mp h
theorem ky_set {N : List PNode} {i : Nat} (x : PNode) (h : i < N.length) (j : Nat) : ky (N.set i x) j = if i = j then x.key else ky N j := by
  unfold ky
  rw [List.getElem?_set]
  split
  · rfl
  · rfl
theorem nx_set {N : List PNode} {i : Nat} (x : PNode) (h : i < N.length) (j : Nat) : nx (N.set i x) j = if i = j then x.next else nx N j := by
  unfold nx
  rw [List.getElem?_set]
  split
  · rfl
  · rfl
noncomputable def Lk (f : Nat → Int) : List Nat → Prop
  | [] => True
  | [i] => f i = -1
  | i :: j :: r => f i = (j : Int) ∧ Lk f (j :: r)
theorem Lk.congr {f g : Nat → Int} : ∀ {l : List Nat}, (∀ i ∈ l, g i = f i) → Lk f l → Lk g l
  | [], _, _ => trivial
  | [i], h, hl => (h i (.head _)).trans hl
  | i :: j :: r, h, hl => ⟨(h i (.head _)).trans hl.1, Lk.congr (fun a ha => h a (.tail _ ha)) hl.2⟩
theorem Lk.tail {f : Nat → Int} {i : Nat} {l : List Nat} (h : Lk f (i :: l)) : Lk f l := by
  cases l with
  | nil => trivial
  | cons j r => exact h.2
theorem Lk.suffix {f : Nat → Int} {l : List Nat} : ∀ {pre : List Nat}, Lk f (pre ++ l) → Lk f l
  | [], h => h
  | _ :: pre, h => Lk.suffix (pre := pre) (Lk.tail h)
theorem Lk.swap {f g : Nat → Int} {j p s : Nat} {post : List Nat} : ∀ {pre : List Nat}, (∀ i ∈ pre, g i = f i) → (∀ i ∈ post, g i = f i) → g j = (s : Int) → g s = f p → Lk f (pre ++ j :: p :: post) → Lk g (pre ++ j :: s :: post)
  | [], _, h2, h3, h4, h => by
    refine ⟨h3, ?_⟩
    have h5 := h.2
    cases post with
    | nil => exact h4.trans h5
    | cons a r => exact ⟨h4.trans h5.1, Lk.congr h2 h5.2⟩
  | [a], h1, h2, h3, h4, h => ⟨(h1 a (.head _)).trans h.1, Lk.swap (pre := []) (fun _ h => nomatch h) h2 h3 h4 h.2⟩
  | a :: b :: pre, h1, h2, h3, h4, h => ⟨(h1 a (.head _)).trans h.1, Lk.swap (pre := b :: pre) (fun i hi => h1 i (.tail _ hi)) h2 h3 h4 h.2⟩
structure Chains (N : List PNode) (C : Nat → List Nat) : Prop where
  mem : ∀ p i, i ∈ C p ↔ ∃ k, ky N i = some k ∧ mpN N.length k = p
  lk : ∀ p, Lk (nx N) (C p)
  head : ∀ p i r, C p = i :: r → i = p
  nd : ∀ p, (C p).Nodup
  nil : ∀ i, ky N i = none → nx N i = -1
  uniq : ∀ i j k, ky N i = some k → ky N j = some k → i = j
theorem Chains.lt {N : List PNode} {C : Nat → List Nat} (W : Chains N C) {p i : Nat} (h : i ∈ C p) : i < N.length := by
  obtain ⟨k, hk, _⟩ := (W.mem p i).mp h
  exact ky_lt hk
theorem nodup_len {l : List Nat} {n : Nat} (h : l.Nodup) (hb : ∀ i ∈ l, i < n) : l.length ≤ n := by
  have := h.length_le_of_subset (l₂ := List.range n) fun i hi => List.mem_range.mpr (hb i hi)
  rwa [List.length_range] at this
theorem walk_found {N : List PNode} {k : PKey} {j : Nat} (hk : ky N j = some k) (hu : ∀ a, ky N a = some k → a = j) : ∀ (l : List Nat) (i f : Nat), Lk (nx N) (i :: l) → (∀ a ∈ i :: l, a < N.length) → j ∈ i :: l → l.length + 1 ≤ f → walkF N k f (i : Int) = some (j : Int) := by
  intro l
  induction l with
  | nil =>
    intro i f hL hb hj hf
    obtain ⟨f, rfl⟩ : ∃ g, f = g + 1 := ⟨f - 1, by simp only [List.length_nil] at hf; omega⟩
    have hji : j = i := List.mem_singleton.mp hj
    subst hji
    obtain ⟨x, hx, hxk⟩ := ky_get hk
    rw [walkF, if_neg (by omega), Int.toNat_natCast, hx]
    dsimp only
    rw [if_pos hxk]
  | cons a l ih =>
    intro i f hL hb hj hf
    obtain ⟨f, rfl⟩ : ∃ g, f = g + 1 := ⟨f - 1, by simp only [List.length_cons] at hf; omega⟩
    have hi := hb i (.head _)
    have hx := List.getElem?_eq_getElem hi
    rw [walkF, if_neg (by omega), Int.toNat_natCast, hx]
    dsimp only
    by_cases hxk : N[i].key = some k
    · rw [if_pos hxk, hu i (by rw [ky_of hx]; exact hxk)]
    · rw [if_neg hxk, ← nx_of hx, hL.1]
      have hne : j ≠ i := fun e => hxk (by rw [← ky_of hx, ← e]; exact hk)
      refine ih a f hL.2 (fun b hb' => hb b (.tail _ hb')) ?_ (by simp only [List.length_cons] at hf; omega)
      rcases List.mem_cons.mp hj with h | h
      · exact absurd h hne
      · exact h
theorem walk_none {N : List PNode} {k : PKey} (hno : ∀ a, ky N a ≠ some k) : ∀ (l : List Nat) (i f : Nat), Lk (nx N) (i :: l) → (∀ a ∈ i :: l, a < N.length) → l.length + 2 ≤ f → walkF N k f (i : Int) = some (-1) := by
  intro l
  induction l with
  | nil =>
    intro i f hL hb hf
    obtain ⟨f, rfl⟩ : ∃ g, f = g + 2 := ⟨f - 2, by simp only [List.length_nil] at hf; omega⟩
    have hx := List.getElem?_eq_getElem (hb i (.head _))
    rw [walkF, if_neg (by omega), Int.toNat_natCast, hx]
    dsimp only
    rw [if_neg (fun h => hno i (by rw [ky_of hx]; exact h)), ← nx_of hx]
    rw [show nx N i = -1 from hL, walkF, if_pos (by omega)]
  | cons a l ih =>
    intro i f hL hb hf
    obtain ⟨f, rfl⟩ : ∃ g, f = g + 1 := ⟨f - 1, by simp only [List.length_cons] at hf; omega⟩
    have hx := List.getElem?_eq_getElem (hb i (.head _))
    rw [walkF, if_neg (by omega), Int.toNat_natCast, hx]
    dsimp only
    rw [if_neg (fun h => hno i (by rw [ky_of hx]; exact h)), ← nx_of hx, hL.1]
    exact ih a f hL.2 (fun b hb' => hb b (.tail _ hb')) (by simp only [List.length_cons] at hf; omega)
theorem find_hit {T : Tab} {C : Nat → List Nat} (W : Chains T.nodes C) {i : Nat} {k : PKey} (h : ky T.nodes i = some k) : findP T k = some (i : Int) := by
  have hi := ky_lt h
  have hn : 0 < T.nodes.length := by omega
  rw [findP, if_neg (by omega), mpN_cast hn]
  have hm := (W.mem (mpN T.nodes.length k) i).mpr ⟨k, h, rfl⟩
  cases hC : C (mpN T.nodes.length k) with
  | nil => rw [hC] at hm; cases hm
  | cons a l =>
    have ha := W.head _ _ _ hC
    subst ha
    have hL := W.lk (mpN T.nodes.length k)
    have hnd := W.nd (mpN T.nodes.length k)
    have hb : ∀ b ∈ mpN T.nodes.length k :: l, b < T.nodes.length := fun b hb => W.lt (p := mpN T.nodes.length k) (by rw [hC]; exact hb)
    rw [hC] at hL hnd hm
    have := nodup_len hnd hb
    simp only [List.length_cons] at this
    exact walk_found h (fun a ha => W.uniq a i k ha h) l _ _ hL hb hm (by omega)
theorem find_miss {T : Tab} {C : Nat → List Nat} (W : Chains T.nodes C) {k : PKey} (h : ∀ i, ky T.nodes i ≠ some k) : findP T k = some (-1) := by
  by_cases h0 : T.nodes.length = 0
  · rw [findP, if_pos h0]
  have hn : 0 < T.nodes.length := by omega
  have hp := mpN_lt hn k
  rw [findP, if_neg h0, mpN_cast hn]
  cases hq : ky T.nodes (mpN T.nodes.length k) with
  | none => exact walk_none h [] _ _ (W.nil _ hq) (fun a ha => by rw [List.mem_singleton.mp ha]; exact hp) (by simp only [List.length_nil]; omega)
  | some k' =>
    have hm := (W.mem (mpN T.nodes.length k') (mpN T.nodes.length k)).mpr ⟨k', hq, rfl⟩
    obtain ⟨pre, l, hC⟩ := List.append_of_mem hm
    have hL := W.lk (mpN T.nodes.length k')
    have hnd := W.nd (mpN T.nodes.length k')
    rw [hC] at hL hnd
    have hb : ∀ b ∈ mpN T.nodes.length k :: l, b < T.nodes.length := fun b hb => W.lt (p := mpN T.nodes.length k') (by rw [hC]; exact List.mem_append_right _ hb)
    have := nodup_len (List.nodup_append.mp hnd).2.1 hb
    simp only [List.length_cons] at this
    exact walk_none h l _ _ hL.suffix hb (by omega)
theorem prev_found {N : List PNode} {j p : Nat} {post : List Nat} : ∀ (pre : List Nat) (i f : Nat) , (i :: pre ++ [p]) ++ post = i :: (pre ++ p :: post) → Lk (nx N) (i :: (pre ++ p :: post)) → (i :: (pre ++ p :: post)).Nodup → (∀ a ∈ i :: (pre ++ p :: post), a < N.length) → (i :: pre).getLast (by simp) = j → pre.length + 1 ≤ f → prevF N (p : Int) f (i : Int) = some (j : Int) := by
  intro pre
  induction pre with
  | nil =>
    intro i f _ hL hnd hb hj hf
    obtain ⟨f, rfl⟩ : ∃ g, f = g + 1 := ⟨f - 1, by simp only [List.length_nil] at hf; omega⟩
    have hji : i = j := hj
    subst hji
    have hx := List.getElem?_eq_getElem (hb i (.head _))
    rw [prevF, if_neg (by omega), Int.toNat_natCast, hx]
    dsimp only
    rw [if_pos]
    rw [← nx_of hx]; exact hL.1
  | cons a pre ih =>
    intro i f _ hL hnd hb hj hf
    obtain ⟨f, rfl⟩ : ∃ g, f = g + 1 := ⟨f - 1, by simp only [List.length_cons] at hf; omega⟩
    have hi := hb i (.head _)
    have hx := List.getElem?_eq_getElem hi
    rw [prevF, if_neg (by omega), Int.toNat_natCast, hx]
    dsimp only
    have hn : N[i].next = (a : Int) := by rw [← nx_of hx]; exact hL.1
    have hnd2 := (List.nodup_cons.mp hnd).2
    have hap : a ≠ p := by
      have := (List.nodup_cons.mp hnd2).1
      intro e; subst e
      exact this (List.mem_append_right _ (.head _))
    rw [if_neg (by rw [hn]; omega), hn]
    exact ih a f (by simp) hL.2 hnd2 (fun b hb' => hb b (.tail _ hb')) (by rw [← hj]; simp) (by simp only [List.length_cons] at hf; omega)

end
section
/-! inserting keeps the chains -/
theorem Chains.nil_of {N : List PNode} {C : Nat → List Nat} (W : Chains N C) {p : Nat} (h : ∀ k, ky N p = some k → mpN N.length k ≠ p) : C p = [] := by
  cases hC : C p with
  | nil => rfl
  | cons i r =>
    have e := W.head p i r hC
    subst e
    obtain ⟨k, hk, hm⟩ := (W.mem i i).mp (by rw [hC]; exact .head _)
    exact absurd hm (h k hk)
theorem Chains.own {N : List PNode} {C : Nat → List Nat} (W : Chains N C) {p : Nat} {k : PKey} (h : ky N p = some k) (hm : mpN N.length k = p) : ∃ r, C p = p :: r := by
  have := (W.mem p p).mpr ⟨k, h, hm⟩
  cases hC : C p with
  | nil => rw [hC] at this; cases this
  | cons i r => have e := W.head p i r hC; subst e; exact ⟨r, rfl⟩
theorem Chains.insA {N N' : List PNode} {C : Nat → List Nat} (W : Chains N C) {p : Nat} {k : PKey} (hl : N'.length = N.length) (hkE : ∀ i, ky N' i = if i = p then some k else ky N i) (hnE : ∀ i, nx N' i = if i = p then -1 else nx N i)
    (hp : mpN N.length k = p) (hfree : ky N p = none) (hno : ∀ i, ky N i ≠ some k) : Chains N' (fun q => if q = p then [p] else C q) := by
  have hC : C p = [] := W.nil_of fun k' h => by rw [hfree] at h; cases h
  have ne : ∀ q i, i ∈ C q → i ≠ p := fun q i hi e => by
    obtain ⟨k', hk', _⟩ := (W.mem q i).mp hi
    rw [e, hfree] at hk'; cases hk'
  refine ⟨fun q i => ?_, fun q => ?_, fun q i r => ?_, fun q => ?_, fun i h => ?_, fun i j k' h1 h2 => ?_⟩
  · rw [hl, hkE]
    by_cases hq : q = p
    · rw [if_pos hq]
      constructor
      · intro hi; have hi := List.mem_singleton.mp hi; rw [if_pos hi]; exact ⟨k, rfl, by rw [hp, hq]⟩
      · rintro ⟨k', h1, h2⟩
        by_cases hi : i = p
        · exact List.mem_singleton.mpr hi
        · rw [if_neg hi] at h1
          have := (W.mem q i).mpr ⟨k', h1, h2⟩
          rw [hq, hC] at this; cases this
    · rw [if_neg hq]
      constructor
      · intro hi; rw [if_neg (ne q i hi)]; exact (W.mem q i).mp hi
      · rintro ⟨k', h1, h2⟩
        by_cases hi : i = p
        · rw [if_pos hi] at h1; cases h1; exact absurd (h2.symm.trans hp) hq
        · rw [if_neg hi] at h1; exact (W.mem q i).mpr ⟨k', h1, h2⟩
  · by_cases hq : q = p
    · rw [if_pos hq]; show nx N' p = -1; rw [hnE, if_pos rfl]
    · rw [if_neg hq]; exact (W.lk q).congr fun i hi => by rw [hnE, if_neg (ne q i hi)]
  · by_cases hq : q = p
    · rw [if_pos hq]; intro h; cases h; exact hq.symm
    · rw [if_neg hq]; exact W.head q i r
  · by_cases hq : q = p
    · rw [if_pos hq]; exact List.nodup_cons.mpr ⟨List.not_mem_nil, List.nodup_nil⟩
    · rw [if_neg hq]; exact W.nd q
  · rw [hkE] at h; rw [hnE]
    by_cases hi : i = p
    · rw [if_pos hi]
    · rw [if_neg hi] at h ⊢; exact W.nil i h
  · rw [hkE] at h1 h2
    by_cases hi : i = p <;> by_cases hj : j = p
    · rw [hi, hj]
    · rw [if_pos hi] at h1; rw [if_neg hj] at h2; cases h1; exact absurd h2 (hno j)
    · rw [if_neg hi] at h1; rw [if_pos hj] at h2; cases h2; exact absurd h1 (hno i)
    · rw [if_neg hi] at h1; rw [if_neg hj] at h2; exact W.uniq i j k' h1 h2
theorem Chains.insB {N N' : List PNode} {C : Nat → List Nat} (W : Chains N C) {p s : Nat} {k pk : PKey} {r : List Nat} (hl : N'.length = N.length) (hkE : ∀ i, ky N' i = if i = s then some k else ky N i) (hnE : ∀ i, nx N' i = if i = s then nx N p else if i = p then (s : Int) else nx N i)
    (hp : mpN N.length k = p) (hpk : ky N p = some pk) (hpm : mpN N.length pk = p) (hC : C p = p :: r) (hfree : ky N s = none) (hno : ∀ i, ky N i ≠ some k) : Chains N' (fun q => if q = p then p :: s :: r else C q) := by
  have nes : ∀ q i, i ∈ C q → i ≠ s := fun q i hi e => by
    obtain ⟨k', hk', _⟩ := (W.mem q i).mp hi
    rw [e, hfree] at hk'; cases hk'
  have hps : p ≠ s := fun e => by rw [e, hfree] at hpk; cases hpk
  have hnd := W.nd p
  rw [hC] at hnd
  have nep : ∀ q i, q ≠ p → i ∈ C q → i ≠ p := fun q i hq hi e => by
    obtain ⟨k', hk', hm⟩ := (W.mem q i).mp hi
    rw [e, hpk] at hk'; cases hk'; exact hq (hm.symm.trans hpm)
  have mr : ∀ i, i ∈ p :: r → i ≠ s := fun i hi => nes p i (by rw [hC]; exact hi)
  refine ⟨fun q i => ?_, fun q => ?_, fun q i r' => ?_, fun q => ?_, fun i h => ?_, fun i j k' h1 h2 => ?_⟩
  · rw [hl, hkE]
    by_cases hq : q = p
    · rw [if_pos hq]
      have hm := W.mem p i
      rw [hC] at hm
      by_cases hi : i = s
      · rw [if_pos hi]
        exact ⟨fun _ => ⟨k, rfl, by rw [hp, hq]⟩, fun _ => by rw [hi]; exact .tail _ (.head _)⟩
      · rw [if_neg hi, hq]
        rw [← hm]
        constructor
        · intro h
          rcases List.mem_cons.mp h with h | h
          · rw [h]; exact .head _
          · rcases List.mem_cons.mp h with h | h
            · exact absurd h hi
            · exact .tail _ h
        · intro h
          rcases List.mem_cons.mp h with h | h
          · rw [h]; exact .head _
          · exact .tail _ (.tail _ h)
    · rw [if_neg hq]
      constructor
      · intro hi; rw [if_neg (nes q i hi)]; exact (W.mem q i).mp hi
      · rintro ⟨k', h1, h2⟩
        by_cases hi : i = s
        · rw [if_pos hi] at h1; cases h1; exact absurd (h2.symm.trans hp) hq
        · rw [if_neg hi] at h1; exact (W.mem q i).mpr ⟨k', h1, h2⟩
  · by_cases hq : q = p
    · rw [if_pos hq]
      have hL := W.lk p
      rw [hC] at hL
      refine ⟨by rw [hnE, if_neg hps, if_pos rfl], ?_⟩
      have hnr : ∀ i ∈ r, nx N' i = nx N i := fun i hi => by
        rw [hnE, if_neg (mr i (.tail _ hi)), if_neg (fun e : i = p => (List.nodup_cons.mp hnd).1 (by rw [← e]; exact hi))]
      have hs : nx N' s = nx N p := by rw [hnE, if_pos rfl]
      cases r with
      | nil => exact hs.trans hL
      | cons a r => exact ⟨hs.trans hL.1, hL.2.congr hnr⟩
    · rw [if_neg hq]; exact (W.lk q).congr fun i hi => by rw [hnE, if_neg (nes q i hi), if_neg (nep q i hq hi)]
  · by_cases hq : q = p
    · rw [if_pos hq]; intro h; cases h; exact hq.symm
    · rw [if_neg hq]; exact W.head q i r'
  · by_cases hq : q = p
    · rw [if_pos hq]
      refine List.nodup_cons.mpr ⟨fun h => ?_, List.nodup_cons.mpr ⟨fun h => mr s (.tail _ h) rfl, (List.nodup_cons.mp hnd).2⟩⟩
      rcases List.mem_cons.mp h with h | h
      · exact hps h
      · exact (List.nodup_cons.mp hnd).1 h
    · rw [if_neg hq]; exact W.nd q
  · rw [hkE] at h; rw [hnE]
    by_cases hi : i = s
    · rw [if_pos hi] at h; cases h
    · rw [if_neg hi] at h
      rw [if_neg hi, if_neg fun e => by rw [e, hpk] at h; cases h]
      exact W.nil i h
  · rw [hkE] at h1 h2
    by_cases hi : i = s <;> by_cases hj : j = s
    · rw [hi, hj]
    · rw [if_pos hi] at h1; rw [if_neg hj] at h2; cases h1; exact absurd h2 (hno j)
    · rw [if_neg hi] at h1; rw [if_pos hj] at h2; cases h2; exact absurd h1 (hno i)
    · rw [if_neg hi] at h1; rw [if_neg hj] at h2; exact W.uniq i j k' h1 h2

end
section
theorem Chains.insC {N N' : List PNode} {C : Nat → List Nat} (W : Chains N C) {p s o j : Nat} {k pk : PKey} {pre post : List Nat} (hl : N'.length = N.length) (hkE : ∀ i, ky N' i = if i = p then some k else if i = s then some pk else ky N i)
    (hnE : ∀ i, nx N' i = if i = p then -1 else if i = s then nx N p else if i = j then (s : Int) else nx N i)
    (hp : mpN N.length k = p) (hpk : ky N p = some pk) (hpm : mpN N.length pk = o) (hop : o ≠ p) (hC : C o = pre ++ j :: p :: post) (hfree : ky N s = none) (hno : ∀ i, ky N i ≠ some k) :
    Chains N' (fun q => if q = p then [p] else if q = o then pre ++ j :: s :: post else C q) := by
  have hCp : C p = [] := W.nil_of fun k' h => by rw [hpk] at h; cases h; rw [hpm]; exact hop
  have nes : ∀ q i, i ∈ C q → i ≠ s := fun q i hi e => by
    obtain ⟨k', hk', _⟩ := (W.mem q i).mp hi
    rw [e, hfree] at hk'; cases hk'
  have hps : p ≠ s := fun e => by rw [e, hfree] at hpk; cases hpk
  have nep : ∀ q i, q ≠ o → i ∈ C q → i ≠ p := fun q i hq hi e => by
    obtain ⟨k', hk', hm⟩ := (W.mem q i).mp hi
    rw [e, hpk] at hk'; cases hk'; exact hq (hm.symm.trans hpm)
  have hnd := W.nd o
  rw [hC] at hnd
  obtain ⟨nd1, nd2, nd3⟩ := List.nodup_append.mp hnd
  obtain ⟨nd4, nd5⟩ := List.nodup_cons.mp nd2
  obtain ⟨nd6, nd7⟩ := List.nodup_cons.mp nd5
  have preS : ∀ i ∈ pre, i ≠ s := fun i hi => nes o i (by rw [hC]; exact List.mem_append_left _ hi)
  have postS : ∀ i ∈ post, i ≠ s := fun i hi => nes o i (by rw [hC]; exact List.mem_append_right _ (.tail _ (.tail _ hi)))
  have jS : j ≠ s := nes o j (by rw [hC]; exact List.mem_append_right _ (.head _))
  have jP : j ≠ p := fun e => nd4 (by rw [e]; exact .head _)
  have preP : ∀ i ∈ pre, i ≠ p := fun i hi => nd3 i hi p (.tail _ (.head _))
  have preJ : ∀ i ∈ pre, i ≠ j := fun i hi => nd3 i hi j (.head _)
  have postP : ∀ i ∈ post, i ≠ p := fun i hi e => nd6 (e ▸ hi)
  have postJ : ∀ i ∈ post, i ≠ j := fun i hi e => nd4 (e ▸ .tail _ hi)
  have hj : ky N j ≠ none := fun e => by
    obtain ⟨k', hk', _⟩ := (W.mem o j).mp (by rw [hC]; exact List.mem_append_right _ (.head _))
    rw [e] at hk'; cases hk'
  refine ⟨fun q i => ?_, fun q => ?_, fun q i r' => ?_, fun q => ?_, fun i h => ?_, fun i j' k' h1 h2 => ?_⟩
  · rw [hl, hkE]
    by_cases hq : q = p
    · rw [if_pos hq]
      constructor
      · intro hi; have hi := List.mem_singleton.mp hi; rw [if_pos hi]; exact ⟨k, rfl, by rw [hp, hq]⟩
      · rintro ⟨k', h1, h2⟩
        by_cases hi : i = p
        · exact List.mem_singleton.mpr hi
        · rw [if_neg hi] at h1
          by_cases hi2 : i = s
          · rw [if_pos hi2] at h1; cases h1; exact absurd (hpm.symm.trans (h2.trans hq)) hop
          · rw [if_neg hi2] at h1
            have := (W.mem q i).mpr ⟨k', h1, h2⟩
            rw [hq, hCp] at this; cases this
    · rw [if_neg hq]
      by_cases hqo : q = o
      · rw [if_pos hqo]
        by_cases hi : i = p
        · rw [if_pos hi]
          constructor
          · intro h
            exfalso
            rcases List.mem_append.mp h with h | h
            · exact preP i h hi
            · rcases List.mem_cons.mp h with h | h
              · exact jP (h.symm.trans hi)
              · rcases List.mem_cons.mp h with h | h
                · exact hps (hi.symm.trans h)
                · exact postP i h hi
          · rintro ⟨k', h1, h2⟩; cases h1; exact absurd (h2.symm.trans hp) hq
        · rw [if_neg hi]
          by_cases hi2 : i = s
          · rw [if_pos hi2]
            exact ⟨fun _ => ⟨pk, rfl, by rw [hpm, hqo]⟩, fun _ => by rw [hi2]; exact List.mem_append_right _ (.tail _ (.head _))⟩
          · rw [if_neg hi2, ← W.mem q i, hqo, hC]
            simp only [List.mem_append, List.mem_cons, hi, hi2, false_or]
      · rw [if_neg hqo]
        constructor
        · intro hi; rw [if_neg (nep q i hqo hi), if_neg (nes q i hi)]; exact (W.mem q i).mp hi
        · rintro ⟨k', h1, h2⟩
          by_cases hi : i = p
          · rw [if_pos hi] at h1; cases h1; exact absurd (h2.symm.trans hp) hq
          · rw [if_neg hi] at h1
            by_cases hi2 : i = s
            · rw [if_pos hi2] at h1; cases h1; exact absurd (h2.symm.trans hpm) hqo
            · rw [if_neg hi2] at h1; exact (W.mem q i).mpr ⟨k', h1, h2⟩
  · by_cases hq : q = p
    · rw [if_pos hq]; show nx N' p = -1; rw [hnE, if_pos rfl]
    · rw [if_neg hq]
      by_cases hqo : q = o
      · rw [if_pos hqo]
        have hL := W.lk o
        rw [hC] at hL
        refine Lk.swap (f := nx N) (p := p) (fun i hi => ?_) (fun i hi => ?_) ?_ ?_ hL
        · rw [hnE, if_neg (preP i hi), if_neg (preS i hi), if_neg (preJ i hi)]
        · rw [hnE, if_neg (postP i hi), if_neg (postS i hi), if_neg (postJ i hi)]
        · rw [hnE, if_neg jP, if_neg jS, if_pos rfl]
        · rw [hnE, if_neg (Ne.symm hps), if_pos rfl]
      · rw [if_neg hqo]
        refine (W.lk q).congr fun i hi => ?_
        rw [hnE, if_neg (nep q i hqo hi), if_neg (nes q i hi), if_neg fun e => ?_]
        obtain ⟨k', hk', hm⟩ := (W.mem q i).mp hi
        obtain ⟨k2, hk2, hm2⟩ := (W.mem o j).mp (by rw [hC]; exact List.mem_append_right _ (.head _))
        rw [e, hk2] at hk'
        cases hk'
        exact hqo (hm.symm.trans hm2)
  · by_cases hq : q = p
    · rw [if_pos hq]; intro h; cases h; exact hq.symm
    · rw [if_neg hq]
      by_cases hqo : q = o
      · rw [if_pos hqo]; intro h
        cases pre with
        | nil => have := W.head o j _ hC; cases h; rw [hqo]; exact this
        | cons a pre => have := W.head o a _ hC; cases h; rw [hqo]; exact this
      · rw [if_neg hqo]; exact W.head q i r'
  · by_cases hq : q = p
    · rw [if_pos hq]; exact List.nodup_cons.mpr ⟨List.not_mem_nil, List.nodup_nil⟩
    · rw [if_neg hq]
      by_cases hqo : q = o
      · rw [if_pos hqo]
        refine List.nodup_append.mpr ⟨nd1, List.nodup_cons.mpr ⟨fun h => ?_, List.nodup_cons.mpr ⟨fun h => postS s h rfl, nd7⟩⟩, fun a ha b hb e => ?_⟩
        · rcases List.mem_cons.mp h with h | h
          · exact jS h
          · exact postJ j h rfl
        · subst e
          rcases List.mem_cons.mp hb with h | h
          · exact preJ a ha h
          · rcases List.mem_cons.mp h with h | h
            · exact preS a ha h
            · exact nd3 a ha a (.tail _ (.tail _ h)) rfl
      · rw [if_neg hqo]; exact W.nd q
  · rw [hkE] at h; rw [hnE]
    by_cases hi : i = p
    · rw [if_pos hi]
    · rw [if_neg hi] at h
      by_cases hi2 : i = s
      · rw [if_pos hi2] at h; cases h
      · rw [if_neg hi2] at h
        rw [if_neg hi, if_neg hi2, if_neg (fun e : i = j => hj (by rw [← e]; exact h))]
        exact W.nil i h
  · rw [hkE] at h1 h2
    have aux : ∀ a b, (if a = p then some k else if a = s then some pk else ky N a) = some k' → (if b = p then some k else if b = s then some pk else ky N b) = some k' → a ≠ p → b ≠ p → a = s → b = s := by
      intro a b h1 h2 ha hb has
      by_cases hbs : b = s
      · exact hbs
      · rw [if_neg ha, if_pos has] at h1
        rw [if_neg hb, if_neg hbs] at h2
        cases h1
        exact absurd (W.uniq b p pk h2 hpk) hb
    by_cases hi : i = p
    · rw [if_pos hi] at h1
      cases h1
      by_cases hj' : j' = p
      · rw [hi, hj']
      · rw [if_neg hj'] at h2
        by_cases hj2 : j' = s
        · rw [if_pos hj2] at h2; cases h2; exact absurd hpk (hno p)
        · rw [if_neg hj2] at h2; exact absurd h2 (hno j')
    · by_cases hj' : j' = p
      · rw [if_pos hj'] at h2
        cases h2
        rw [if_neg hi] at h1
        by_cases hi2 : i = s
        · rw [if_pos hi2] at h1; cases h1; exact absurd hpk (hno p)
        · rw [if_neg hi2] at h1; exact absurd h1 (hno i)
      · by_cases hi2 : i = s
        · rw [hi2, aux i j' h1 h2 hi hj' hi2]
        · by_cases hj2 : j' = s
          · rw [hj2, aux j' i h2 h1 hj' hi hj2]
          · rw [if_neg hi, if_neg hi2] at h1
            rw [if_neg hj', if_neg hj2] at h2
            exact W.uniq i j' k' h1 h2

end
section
/-! good tables: what they hold; a new key where there is room -/
abbrev inA (a : Nat) (k : PKey) : Prop := 1 ≤ arrIx k ∧ arrIx k ≤ (a : Int)
noncomputable def goodKs : List PKey := [.int 1, .int 2, .int 3, .int 4, .int 5, .int 0, .int (-1), .int (-2), .int (-3), .int (-4), .bts [107, 48], .bts [107, 49], .bts [107, 50], .bts [107, 51], .bts [107, 52]]
noncomputable def Good (k : PKey) : Prop := k ∈ goodKs
noncomputable def OkV (v : Value) : Prop := ∃ i t, v = .int i t ∧ 10 ≤ i ∧ i < 16
theorem OkV.ne {v : Value} (h : OkV v) : v ≠ .none := by obtain ⟨i, t, rfl, _⟩ := h; exact fun e => nomatch e
theorem OkV.hand {v : Value} (h : OkV v) : handedIn v = true := by obtain ⟨i, t, rfl, _⟩ := h; rfl
theorem Good.keyOk {k : PKey} (h : Good k) : KeyOk k := by
  unfold Good goodKs at h
  simp only [List.mem_cons, List.not_mem_nil, or_false] at h
  rcases h with h | h | h | h | h | h | h | h | h | h | h | h | h | h | h <;> subst h <;> first | trivial | rfl
theorem Good.okB {k : PKey} (h : Good k) : keyOkB k = true := keyOkB_of h.keyOk
noncomputable def NOk (a : Nat) (x : PNode) : Prop := (x.val = .none ↔ x.key = none) ∧ (x.val ≠ .none → OkV x.val) ∧ ∀ k, x.key = some k → Good k ∧ ¬ inA a k
structure WF (T : Tab) : Prop where
  ch : ∃ C, Chains T.nodes C
  nok : ∀ x ∈ T.nodes, NOk T.arr.length x
  av : ∀ v ∈ T.arr, v = .none ∨ OkV v
  al : T.arr.length ≤ 8
  a5 : ∀ i v, 5 ≤ i → T.arr[i]? = some v → v = .none
  f0 : 0 ≤ T.free
  fl : T.free ≤ T.nodes.length
  fr : ∀ i : Nat, T.free ≤ i → i < T.nodes.length → ky T.nodes i ≠ none
noncomputable def nents (N : List PNode) : List (PKey × Value) := N.filterMap slotN
noncomputable def aents (A : List Value) (i : Int) : List (PKey × Value) := (slotA A i).filterMap id
noncomputable def ents (T : Tab) : List (PKey × Value) := aents T.arr 1 ++ nents T.nodes
theorem nset_perm {x y : PNode} : ∀ {N : List PNode} {i : Nat}, N[i]? = some x → ((slotN x).toList ++ nents (N.set i y)).Perm ((slotN y).toList ++ nents N)
  | [], _, h => by cases h
  | a :: r, 0, h => by
    have e : a = x := by simpa using h
    subst e
    have h1 : ∀ (z : PNode) (l : List PNode), nents (z :: l) = (slotN z).toList ++ nents l := fun z l => by unfold nents; rw [List.filterMap_cons]; cases slotN z <;> rfl
    rw [List.set_cons_zero, h1, h1]
    exact List.perm_append_comm_assoc _ _ _
  | a :: r, i + 1, h => by
    have ih := nset_perm (y := y) (N := r) (i := i) (by simpa using h)
    have h1 : ∀ (z : PNode) (l : List PNode), nents (z :: l) = (slotN z).toList ++ nents l := fun z l => by unfold nents; rw [List.filterMap_cons]; cases slotN z <;> rfl
    rw [List.set_cons_succ, h1, h1]
    exact (List.perm_append_comm_assoc _ _ _).trans ((ih.append_left _).trans (List.perm_append_comm_assoc _ _ _))
theorem slotN_none {x : PNode} (h : x.key = none) : slotN x = none := by unfold slotN; rw [h]; split <;> rfl
theorem slotN_some {k : PKey} {v : Value} {n : Int} (h : v ≠ .none) : slotN ⟨some k, v, n⟩ = some (k, v) := by unfold slotN; rw [if_neg h]; rfl
theorem nset_same {N : List PNode} {i : Nat} {x y : PNode} (h : N[i]? = some x) (e : slotN x = slotN y) : (nents (N.set i y)).Perm (nents N) := by
  have := nset_perm (y := y) h
  rw [e] at this
  exact (List.perm_append_left_iff _).mp this
theorem nset_free {N : List PNode} {i : Nat} {x : PNode} {y : PNode} (h : N[i]? = some x) (hk : x.key = none) : (nents (N.set i y)).Perm ((slotN y).toList ++ nents N) := by
  have := nset_perm (y := y) h
  rw [slotN_none hk] at this
  exact this
theorem freePos_hit {N : List PNode} : ∀ {n : Nat}, n ≤ N.length → (∀ i : Nat, n ≤ i → i < N.length → ky N i ≠ none) → (∃ i, i < N.length ∧ ky N i = none) → ∃ s : Nat, freePos N n = ((s : Int), s) ∧ s < n ∧ ky N s = none ∧ ∀ i : Nat, s < i → i < N.length → ky N i ≠ none
  | 0, _, h, ⟨i, h1, h2⟩ => absurd h2 (h i (by omega) h1)
  | n + 1, hn, h, hr => by
    have hlt : n < N.length := by omega
    have hx := List.getElem?_eq_getElem hlt
    unfold freePos
    rw [hx]
    dsimp only
    have hk := ky_of hx
    cases hq : N[n].key with
    | none =>
      dsimp only
      exact ⟨n, rfl, by omega, by rw [hk, hq], fun i h1 h2 => h i (by omega) h2⟩
    | some k =>
      dsimp only
      obtain ⟨s, h1, h2, h3, h4⟩ := freePos_hit (n := n) (by omega) (fun i h1 h2 => by
        by_cases e : i = n
        · subst e; rw [hk, hq]; exact fun e => nomatch e
        · exact h i (by omega) h2) hr
      exact ⟨s, h1, by omega, h3, h4⟩
theorem freePos_miss {N : List PNode} : ∀ {n : Nat}, n ≤ N.length → (∀ i : Nat, i < N.length → ky N i ≠ none) → freePos N n = (-1, 0)
  | 0, _, _ => rfl
  | n + 1, hn, h => by
    have hlt : n < N.length := by omega
    have hx := List.getElem?_eq_getElem hlt
    unfold freePos
    rw [hx]
    dsimp only
    have hk := ky_of hx
    cases hq : N[n].key with
    | none => exact absurd (by rw [hk, hq]) (h n hlt)
    | some k => exact freePos_miss (by omega) h

end
section
theorem WF.upd {T : Tab} (W : WF T) {N : List PNode} {f : Int} (hl : N.length = T.nodes.length) (ch : ∃ C, Chains N C) (nok : ∀ x ∈ N, NOk T.arr.length x) (f0 : 0 ≤ f) (fl : f ≤ T.nodes.length) (fr : ∀ i : Nat, f ≤ i → i < T.nodes.length → ky N i ≠ none) : WF { T with nodes := N, free := f } :=
  ⟨ch, nok, W.av, W.al, W.a5, f0, by rw [hl]; exact fl, fun i h1 h2 => fr i h1 (by rw [← hl]; exact h2)⟩
theorem newKey_room {nk : NK} {T : Tab} (W : WF T) {k : PKey} {v : Value} (hk : Good k) (ha : ¬ inA T.arr.length k) (hv : OkV v) (hno : ∀ i, ky T.nodes i ≠ some k) (room : ∃ i, i < T.nodes.length ∧ ky T.nodes i = none) :
    ∃ T', newKeyW nk T k v = some T' ∧ WF T' ∧ T'.arr = T.arr ∧ T'.nodes.length = T.nodes.length ∧ (nents T'.nodes).Perm ((k, v) :: nents T.nodes) := by
  obtain ⟨C, hC⟩ := W.ch
  have hn : 0 < T.nodes.length := by obtain ⟨i, hi, _⟩ := room; omega
  have hm := mpN_cast hn k
  obtain ⟨p, hp⟩ : ∃ p, p = mpN T.nodes.length k := ⟨_, rfl⟩
  have hpl : p < T.nodes.length := hp ▸ mpN_lt hn k
  obtain ⟨place, hpx⟩ : ∃ x, T.nodes[p]? = some x := ⟨_, List.getElem?_eq_getElem hpl⟩
  have hNp := W.nok place (List.mem_of_getElem? hpx)
  have hnew : ∀ n : Int, NOk T.arr.length ⟨some k, v, n⟩ := fun n => ⟨⟨fun e => absurd e hv.ne, fun e => nomatch e⟩, fun _ => hv, fun k' e => by cases e; exact ⟨hk, ha⟩⟩
  unfold newKeyW
  rw [if_neg (by omega), hm, ← hp, Int.toNat_natCast, hpx]
  dsimp only [Option.bind]
  by_cases hv0 : place.val = .none
  · rw [if_pos hv0]
    have hkn := hNp.1.mp hv0
    have hkp : ky T.nodes p = none := by rw [ky_of hpx, hkn]
    have hnx := hC.nil p hkp
    rw [nx_of hpx] at hnx
    have hkE : ∀ i, ky (T.nodes.set p ⟨some k, v, place.next⟩) i = if i = p then some k else ky T.nodes i := fun i => by
      rw [ky_set _ hpl]
      by_cases e : p = i
      · rw [if_pos e, if_pos e.symm]
      · rw [if_neg e, if_neg (Ne.symm e)]
    refine ⟨_, rfl, W.upd (List.length_set ..) ⟨_, hC.insA (List.length_set ..) hkE (fun i => ?_) hp.symm hkp hno⟩ (fun x hx => ?_) W.f0 W.fl (fun i h1 h2 => ?_), rfl, List.length_set .., ?_⟩
    · rw [nx_set _ hpl]
      by_cases e : p = i
      · rw [if_pos e, if_pos e.symm]; exact hnx
      · rw [if_neg e, if_neg (Ne.symm e)]
    · rcases List.mem_or_eq_of_mem_set hx with h | h
      · exact W.nok x h
      · subst h; exact hnew _
    · rw [hkE]
      by_cases e : i = p
      · rw [if_pos e]; exact fun e => nomatch e
      · rw [if_neg e]; exact W.fr i h1 h2
    · have := nset_free (y := ⟨some k, v, place.next⟩) hpx hkn
      rw [slotN_some hv.ne] at this
      exact this
  · rw [if_neg hv0]
    have hkn : place.key ≠ none := fun e => hv0 (hNp.1.mpr e)
    obtain ⟨pk, hpk⟩ := Option.ne_none_iff_exists'.mp hkn
    have hkp : ky T.nodes p = some pk := by rw [ky_of hpx, hpk]
    have hf0 := W.f0
    have hfl := W.fl
    rw [if_neg (by omega)]
    obtain ⟨s, hfp, hs1, hs2, hs3⟩ := freePos_hit (N := T.nodes) (n := T.free.toNat) (by omega) (fun i h1 h2 => W.fr i (by omega) h2) room
    have hsl : s < T.nodes.length := by omega
    obtain ⟨xs, hsx⟩ : ∃ x, T.nodes[s]? = some x := ⟨_, List.getElem?_eq_getElem hsl⟩
    have hsk : xs.key = none := by rw [← ky_of hsx, hs2]
    have hps : p ≠ s := fun e => by rw [e, hs2] at hkp; cases hkp
    obtain ⟨hpG, hpA⟩ := hNp.2.2 pk hpk
    rw [hfp]
    dsimp only
    rw [if_neg (by omega), hpk]
    dsimp only
    rw [if_neg (by rw [hpG.okB]; exact Bool.noConfusion), if_neg (by omega), mpN_cast hn pk, Int.toNat_natCast]
    have hnewp : ∀ n : Int, NOk T.arr.length { place with next := n } := fun n => hNp
    by_cases hB : mpN T.nodes.length pk = p
    · rw [if_pos (by rw [hB])]
      obtain ⟨r, hCp⟩ := hC.own hkp hB
      have hsl' : s < (T.nodes.set p ⟨some pk, place.val, (s : Int)⟩).length := by rw [List.length_set]; exact hsl
      have hkE : ∀ i, ky ((T.nodes.set p ⟨some pk, place.val, (s : Int)⟩).set s ⟨some k, v, place.next⟩) i = if i = s then some k else ky T.nodes i := fun i => by
        rw [ky_set _ hsl', ky_set _ hpl]
        by_cases e : s = i
        · rw [if_pos e, if_pos e.symm]
        · rw [if_neg e, if_neg (Ne.symm e)]
          by_cases e2 : p = i
          · rw [if_pos e2, ← e2, hkp]
          · rw [if_neg e2]
      have hl2 : ((T.nodes.set p ⟨some pk, place.val, (s : Int)⟩).set s ⟨some k, v, place.next⟩).length = T.nodes.length := by rw [List.length_set, List.length_set]
      refine ⟨_, rfl, W.upd hl2 ⟨_, hC.insB hl2 hkE (fun i => ?_) hp.symm hkp hB hCp hs2 hno⟩ (fun x hx => ?_) (by omega) (by omega) (fun i h1 h2 => ?_), rfl, hl2, ?_⟩
      · rw [nx_set _ hsl', nx_set _ hpl]
        by_cases e : s = i
        · rw [if_pos e, if_pos e.symm]; exact (nx_of hpx).symm
        · rw [if_neg e, if_neg (Ne.symm e)]
          by_cases e2 : p = i
          · rw [if_pos e2, if_pos e2.symm]
          · rw [if_neg e2, if_neg (Ne.symm e2)]
      · rcases List.mem_or_eq_of_mem_set hx with h | h
        · rcases List.mem_or_eq_of_mem_set h with h | h
          · exact W.nok x h
          · subst h; rw [← hpk]; exact hNp
        · subst h; exact hnew _
      · rw [hkE]
        by_cases e : i = s
        · rw [if_pos e]; exact fun e => nomatch e
        · rw [if_neg e]; exact hs3 i (by omega) h2
      · have h1 := nset_same (y := ⟨some pk, place.val, (s : Int)⟩) hpx (by unfold slotN; rw [hpk])
        have h2 := nset_free (N := T.nodes.set p ⟨some pk, place.val, (s : Int)⟩) (i := s) (x := xs) (y := ⟨some k, v, place.next⟩) (by rw [List.getElem?_set_ne hps]; exact hsx) hsk
        rw [slotN_some hv.ne] at h2
        exact h2.trans (h1.cons _)
    · rw [if_neg (by omega)]
      obtain ⟨o, ho⟩ : ∃ o, o = mpN T.nodes.length pk := ⟨_, rfl⟩
      rw [← ho] at hB ⊢
      have hmem := (hC.mem o p).mpr ⟨pk, hkp, ho.symm⟩
      obtain ⟨l, hCo⟩ : ∃ l, C o = o :: l := by
        cases hq : C o with
        | nil => rw [hq] at hmem; cases hmem
        | cons i r => rw [hC.head o i r hq]; exact ⟨r, rfl⟩
      have hml : p ∈ l := by
        rw [hCo] at hmem
        rcases List.mem_cons.mp hmem with h | h
        · exact absurd h.symm hB
        · exact h
      obtain ⟨pre', post, hl⟩ := List.append_of_mem hml
      subst hl
      obtain ⟨j, hj⟩ : ∃ j, (o :: pre').getLast (by simp) = j := ⟨_, rfl⟩
      have hL := hC.lk o
      have hnd := hC.nd o
      have hb : ∀ a ∈ o :: (pre' ++ p :: post), a < T.nodes.length := fun a ha => hC.lt (p := o) (by rw [hCo]; exact ha)
      have hCo2 : C o = (o :: pre').dropLast ++ j :: p :: post := by
        have e := List.dropLast_concat_getLast (l := o :: pre') (by simp)
        rw [hj] at e
        rw [hCo, ← List.cons_append]
        conv => lhs; rw [← e]
        rw [List.append_assoc]; rfl
      rw [hCo] at hL hnd
      have hln := nodup_len hnd hb
      simp only [List.length_cons, List.length_append] at hln
      rw [prev_found pre' o _ (by simp) hL hnd hb hj (by omega)]
      dsimp only
      have hjm : j ∈ C o := by rw [hCo2]; exact List.mem_append_right _ (.head _)
      have hjl := hC.lt hjm
      have hjp : j ≠ p := fun e => by
        have := hC.nd o
        rw [hCo2] at this
        have := (List.nodup_append.mp this).2.1
        rw [e] at this
        exact (List.nodup_cons.mp this).1 (.head _)
      obtain ⟨xj, hjx⟩ : ∃ x, T.nodes[j]? = some x := ⟨_, List.getElem?_eq_getElem hjl⟩
      have hjs : j ≠ s := fun e => by
        obtain ⟨kj, hkj, _⟩ := (hC.mem o j).mp hjm
        rw [e, hs2] at hkj; cases hkj
      rw [if_neg (by omega), Int.toNat_natCast, hjx]
      dsimp only
      obtain ⟨N1, hN1⟩ : ∃ N1, N1 = T.nodes.set j { xj with next := (s : Int) } := ⟨_, rfl⟩
      obtain ⟨N2, hN2⟩ : ∃ N2, N2 = N1.set s place := ⟨_, rfl⟩
      rw [← hN1, ← hN2]
      have hl1 : N1.length = T.nodes.length := by rw [hN1, List.length_set]
      have hl2 : N2.length = T.nodes.length := by rw [hN2, List.length_set, hl1]
      have hl3 : (N2.set p ⟨some k, v, -1⟩).length = T.nodes.length := by rw [List.length_set, hl2]
      have hkE : ∀ i, ky (N2.set p ⟨some k, v, -1⟩) i = if i = p then some k else if i = s then some pk else ky T.nodes i := fun i => by
        rw [ky_set _ (by omega), hN2, ky_set _ (by omega), hN1, ky_set _ hjl]
        by_cases e : p = i
        · rw [if_pos e, if_pos e.symm]
        · rw [if_neg e, if_neg (Ne.symm e)]
          by_cases e2 : s = i
          · rw [if_pos e2, if_pos e2.symm, hpk]
          · rw [if_neg e2, if_neg (Ne.symm e2)]
            by_cases e3 : j = i
            · rw [if_pos e3, ← e3, ky_of hjx]
            · rw [if_neg e3]
      refine ⟨_, rfl, W.upd hl3 ⟨_, hC.insC hl3 hkE (fun i => ?_) hp.symm hkp ho.symm hB hCo2 hs2 hno⟩ (fun x hx => ?_) (by omega) (by omega) (fun i h1 h2 => ?_), rfl, hl3, ?_⟩
      · rw [nx_set _ (by omega), hN2, nx_set _ (by omega), hN1, nx_set _ hjl]
        by_cases e : p = i
        · rw [if_pos e, if_pos e.symm]
        · rw [if_neg e, if_neg (Ne.symm e)]
          by_cases e2 : s = i
          · rw [if_pos e2, if_pos e2.symm, nx_of hpx]
          · rw [if_neg e2, if_neg (Ne.symm e2)]
            by_cases e3 : j = i
            · rw [if_pos e3, if_pos e3.symm]
            · rw [if_neg e3, if_neg (Ne.symm e3)]
      · rcases List.mem_or_eq_of_mem_set hx with h | h
        · rw [hN2] at h
          rcases List.mem_or_eq_of_mem_set h with h | h
          · rw [hN1] at h
            rcases List.mem_or_eq_of_mem_set h with h | h
            · exact W.nok x h
            · subst h; exact W.nok xj (List.mem_of_getElem? hjx)
          · subst h; exact hNp
        · subst h; exact hnew _
      · rw [hkE]
        by_cases e : i = p
        · rw [if_pos e]; exact fun e => nomatch e
        · rw [if_neg e]
          by_cases e2 : i = s
          · rw [if_pos e2]; exact fun e => nomatch e
          · rw [if_neg e2]; exact hs3 i (by omega) h2
      · have h1 : (nents N1).Perm (nents T.nodes) := by rw [hN1]; exact nset_same (y := { xj with next := (s : Int) }) hjx rfl
        have h2 : (nents N2).Perm ((slotN place).toList ++ nents N1) := by
          rw [hN2]
          exact nset_free (N := N1) (i := s) (x := xs) (by rw [hN1, List.getElem?_set_ne hjs]; exact hsx) hsk
        have h3 := nset_perm (N := N2) (i := p) (x := place) (y := ⟨some k, v, -1⟩) (by rw [hN2, List.getElem?_set_ne (fun e => hps e.symm), hN1, List.getElem?_set_ne hjp]; exact hpx)
        rw [slotN_some hv.ne] at h3
        have h4 : ((slotN place).toList ++ nents (N2.set p ⟨some k, v, -1⟩)).Perm ((slotN place).toList ++ ((k, v) :: nents T.nodes)) := by
          refine h3.trans ?_
          refine (h2.append_left _).trans ?_
          refine (List.perm_append_comm_assoc _ _ _).trans ?_
          exact (List.Perm.cons _ h1).append_left _
        exact (List.perm_append_left_iff _).mp h4

end
section
/-! what a table holds, and filling it -/
abbrev Ent := PKey × Value
noncomputable def slotV (i : Int) (v : Value) : Option Ent := if v = .none then none else some (.int i, v)
theorem aents_cons (v : Value) (r : List Value) (i : Int) : aents (v :: r) i = (slotV i v).toList ++ aents r (i + 1) := by
  unfold aents
  rw [slotA, List.filterMap_cons]
  unfold slotV
  by_cases hv : v = .none
  · rw [if_pos hv]; rfl
  · rw [if_neg hv]; rfl
theorem nents_cons (x : PNode) (r : List PNode) : nents (x :: r) = (slotN x).toList ++ nents r := by unfold nents; rw [List.filterMap_cons]; cases slotN x <;> rfl
theorem aents_append (A B : List Value) (i : Int) : aents (A ++ B) i = aents A i ++ aents B (i + A.length) := by
  induction A generalizing i with
  | nil => simp [aents, slotA]
  | cons v r ih => rw [List.cons_append, aents_cons, aents_cons, ih, List.append_assoc, List.length_cons, show i + 1 + (r.length : Int) = i + ((r.length + 1 : Nat) : Int) by omega]
theorem aents_nones (n : Nat) (i : Int) : aents (List.replicate n .none) i = [] := by
  induction n generalizing i with
  | zero => rfl
  | succ n ih => rw [List.replicate_succ, aents_cons, ih]; rfl
theorem aset_perm {u w : Value} : ∀ {A : List Value} {j : Nat} {i : Int}, A[j]? = some u → ((slotV (i + j) u).toList ++ aents (A.set j w) i).Perm ((slotV (i + j) w).toList ++ aents A i)
  | [], _, _, h => by cases h
  | a :: r, 0, i, h => by
    have e : a = u := by simpa using h
    subst e
    rw [List.set_cons_zero, aents_cons, aents_cons, show i + ((0 : Nat) : Int) = i by omega]
    exact List.perm_append_comm_assoc _ _ _
  | a :: r, j + 1, i, h => by
    have ih := aset_perm (w := w) (A := r) (j := j) (i := i + 1) (by simpa using h)
    rw [List.set_cons_succ, aents_cons, aents_cons, show i + ((j + 1 : Nat) : Int) = i + 1 + (j : Int) by omega]
    exact (List.perm_append_comm_assoc _ _ _).trans ((ih.append_left _).trans (List.perm_append_comm_assoc _ _ _))
theorem mem_nents {N : List PNode} {e : Ent} : e ∈ nents N ↔ ∃ x ∈ N, slotN x = some e := List.mem_filterMap
theorem mem_aents {A : List Value} {i : Int} {e : Ent} : e ∈ aents A i ↔ ∃ (j : Nat) (u : Value), A[j]? = some u ∧ u ≠ .none ∧ e = (.int (i + j), u) := by
  unfold aents
  rw [List.mem_filterMap]
  constructor
  · rintro ⟨o, ho, e1⟩
    obtain ⟨j, hj⟩ := List.mem_iff_getElem?.mp ho
    rw [slotA_get] at hj
    obtain ⟨u, hu, e2⟩ := Option.map_eq_some_iff.mp hj
    subst e2
    by_cases h : u = .none
    · rw [if_pos h] at e1; cases e1
    · rw [if_neg h] at e1; cases e1; exact ⟨j, u, hu, h, rfl⟩
  · rintro ⟨j, u, hu, h, rfl⟩
    refine ⟨some (.int (i + j), u), List.mem_iff_getElem?.mpr ⟨j, ?_⟩, rfl⟩
    rw [slotA_get, hu, Option.map_some, if_neg h]
theorem slotN_eq {x : PNode} {e : Ent} (h : slotN x = some e) : x.val ≠ .none ∧ x.key = some e.1 ∧ x.val = e.2 := by
  unfold slotN at h
  by_cases hv : x.val = .none
  · rw [if_pos hv] at h; cases h
  · rw [if_neg hv] at h
    obtain ⟨k, hk, rfl⟩ := Option.map_eq_some_iff.mp h
    exact ⟨hv, hk, rfl⟩
noncomputable def NoK (es : List Ent) (k : PKey) : Prop := ∀ e ∈ es, e.1 ≠ k
theorem WF.not_in {T : Tab} (W : WF T) {k : PKey} (h : NoK (ents T) k) : ∀ i, ky T.nodes i ≠ some k := fun i e => by
  obtain ⟨x, hx, hk⟩ := ky_get e
  have hm := List.mem_of_getElem? hx
  have hv : x.val ≠ .none := fun q => by have := (W.nok x hm).1.mp q; rw [this] at hk; cases hk
  exact h (k, x.val) (List.mem_append_right _ (mem_nents.mpr ⟨x, hm, by unfold slotN; rw [if_neg hv, hk]; rfl⟩)) rfl
theorem good_ix {k : PKey} (h : Good k) : arrIx k ≤ 5 := by
  unfold Good goodKs at h
  simp only [List.mem_cons, List.not_mem_nil, or_false] at h
  rcases h with h | h | h | h | h | h | h | h | h | h | h | h | h | h | h <;> subst h <;> decide
theorem good_inA {k : PKey} {a : Nat} (h : inA a k) : k = .int (arrIx k) := by
  cases k with
  | int i => rfl
  | bts b => exact absurd h.1 (by show ¬ (1 : Int) ≤ -1; decide)
theorem WF.setA {T : Tab} (W : WF T) {k : PKey} {v : Value} (hk : Good k) (ha : inA T.arr.length k) (hv : OkV v) : WF { T with arr := T.arr.set (arrIx k - 1).toNat v } := by
  refine ⟨W.ch, ?_, ?_, ?_, ?_, W.f0, W.fl, W.fr⟩
  · show ∀ x ∈ T.nodes, NOk (T.arr.set (arrIx k - 1).toNat v).length x
    rw [List.length_set]; exact W.nok
  · intro u hu
    rcases List.mem_or_eq_of_mem_set hu with h | h
    · exact W.av u h
    · subst h; exact .inr hv
  · show (T.arr.set _ _).length ≤ 8; rw [List.length_set]; exact W.al
  · intro i u hi hu
    have := good_ix hk
    have h1 := ha.1
    rw [List.getElem?_set_ne (by omega)] at hu
    exact W.a5 i u hi hu
theorem setA_ents {T : Tab} {k : PKey} {v : Value} (ha : inA T.arr.length k) (hv : v ≠ .none) : ∃ l, l.length ≤ 1 ∧ (l ++ ents { T with arr := T.arr.set (arrIx k - 1).toNat v }).Perm ((k, v) :: ents T) ∧ (NoK (ents T) k → l = []) := by
  have h1 := ha.1
  have h2 := ha.2
  have hj : (arrIx k - 1).toNat < T.arr.length := by omega
  have hx := List.getElem?_eq_getElem hj
  have hp := aset_perm (w := v) (i := 1) hx
  have ei : (1 : Int) + ((arrIx k - 1).toNat : Int) = arrIx k := by omega
  rw [ei] at hp
  refine ⟨(slotV (arrIx k) T.arr[(arrIx k - 1).toNat]).toList, ?_, ?_, ?_⟩
  · unfold slotV; split <;> simp
  · unfold ents
    rw [← List.append_assoc, show (k, v) :: (aents T.arr 1 ++ nents T.nodes) = ((slotV (arrIx k) v).toList ++ aents T.arr 1) ++ nents T.nodes from by unfold slotV; rw [if_neg hv, ← good_inA ha]; rfl]
    exact hp.append_right _
  · intro hno
    by_cases hu : T.arr[(arrIx k - 1).toNat] = .none
    · unfold slotV; rw [if_pos hu]; rfl
    · exact absurd (show (PKey.int (1 + ((arrIx k - 1).toNat : Int))) = k by rw [ei, ← good_inA ha]) (hno _ (List.mem_append_left _ (mem_aents.mpr ⟨_, _, hx, hu, rfl⟩)))
noncomputable def outA (a : Nat) (e : Ent) : Bool := !decide (inA a e.1)
theorem nents_len {N : List PNode} {a : Nat} (h : ∀ x ∈ N, NOk a x) (hf : ∀ i, i < N.length → ky N i ≠ none) : (nents N).length = N.length := by
  induction N with
  | nil => rfl
  | cons x r ih =>
    have h0 := hf 0 (by simp)
    have hk : x.key ≠ none := h0
    have hv : x.val ≠ .none := fun q => hk ((h x (.head _)).1.mp q)
    obtain ⟨k, hk2⟩ := Option.ne_none_iff_exists'.mp hk
    rw [nents_cons, List.length_append, ih (fun y hy => h y (.tail _ hy)) (fun i hi => hf (i + 1) (by simpa using hi))]
    unfold slotN
    rw [if_neg hv, hk2, List.length_cons]
    show 1 + _ = _
    omega
theorem WF.out_count {T : Tab} (W : WF T) : (ents T).countP (outA T.arr.length) = (nents T.nodes).length := by
  unfold ents
  rw [List.countP_append, List.countP_eq_zero.mpr, List.countP_eq_length.mpr, Nat.zero_add]
  · intro e he
    obtain ⟨x, hx, hs⟩ := mem_nents.mp he
    have := ((W.nok x hx).2.2 _ (slotN_eq hs).2.1).2
    simp [outA, this]
  · intro e he
    obtain ⟨j, u, hu, _, rfl⟩ := mem_aents.mp he
    have := (List.getElem?_eq_some_iff.mp hu).1
    simp only [outA, Bool.not_eq_true, Bool.not_eq_false', decide_eq_true_eq]
    exact ⟨by show (1 : Int) ≤ 1 + j; omega, by show (1 : Int) + j ≤ _; omega⟩
theorem WF.room {T : Tab} (W : WF T) {k : PKey} {v : Value} {R E0 : List Ent} (hE : ((k, v) :: R ++ ents T).Perm E0) (hc : E0.countP (outA T.arr.length) ≤ T.nodes.length) (ha : ¬ inA T.arr.length k) : ∃ i, i < T.nodes.length ∧ ky T.nodes i = none := by
  apply Classical.byContradiction
  intro hno
  have hf : ∀ i, i < T.nodes.length → ky T.nodes i ≠ none := fun i hi e => hno ⟨i, hi, e⟩
  have h1 := nents_len W.nok hf
  rw [← hE.countP_eq, List.cons_append, List.countP_cons_of_pos (by simp [outA, ha]), List.countP_append, W.out_count] at hc
  omega
structure Fine (E0 : List Ent) : Prop where
  nd : (E0.map (·.1)).Nodup
  ok : ∀ e ∈ E0, Good e.1 ∧ OkV e.2
theorem Fine.perm {E1 E2 : List Ent} (h : Fine E1) (p : E1.Perm E2) : Fine E2 := ⟨(p.map _).nodup_iff.mp h.nd, fun e he => h.ok e (p.mem_iff.mpr he)⟩
theorem Fine.fresh {k : PKey} {v : Value} {R L E0 : List Ent} (F : Fine E0) (hE : ((k, v) :: R ++ L).Perm E0) : NoK L k := fun e he q => by
  have := (F.perm hE.symm).nd
  rw [List.cons_append, List.map_cons] at this
  exact (List.nodup_cons.mp this).1 (List.mem_map.mpr ⟨e, List.mem_append_right _ he, q⟩)
structure IR (a n : Nat) (E0 : List Ent) (T : Tab) (es : List Ent) : Prop where
  wf : WF T
  al : T.arr.length = a
  nl : T.nodes.length = n
  pm : (es ++ ents T).Perm E0
theorem perm_move {k : PKey} {v : Value} {R L L' E0 : List Ent} (hE : ((k, v) :: R ++ L).Perm E0) (h : L'.Perm ((k, v) :: L)) : (R ++ L').Perm E0 :=
  (h.append_left R).trans ((List.perm_middle).trans hE)
theorem IR.step {a n : Nat} {E0 : List Ent} {nk : NK} (F : Fine E0) (hc : E0.countP (outA a) ≤ n) {T : Tab} {k : PKey} {v : Value} {es : List Ent} (I : IR a n E0 T ((k, v) :: es)) : ∃ T', putBackW (newKeyW nk) T k v = some T' ∧ IR a n E0 T' es := by
  obtain ⟨W, rfl, rfl, hE⟩ := I
  obtain ⟨hk, hv⟩ := F.ok (k, v) (hE.mem_iff.mp (.head _))
  have hno := F.fresh hE
  unfold putBackW
  by_cases ha : inA T.arr.length k
  · rw [if_pos (show 1 ≤ arrIx k ∧ arrIx k ≤ (T.arr.length : Int) from ha)]
    obtain ⟨l, _, hp, hl⟩ := setA_ents ha hv.ne
    rw [hl hno, List.nil_append] at hp
    exact ⟨_, rfl, W.setA hk ha hv, List.length_set .., rfl, perm_move hE hp⟩
  · rw [if_neg (show ¬ (1 ≤ arrIx k ∧ arrIx k ≤ (T.arr.length : Int)) from ha)]
    obtain ⟨T', h1, h2, h3, h4, h5⟩ := newKey_room (nk := nk) W hk ha hv (W.not_in hno) (W.room hE hc ha)
    refine ⟨T', h1, h2, by rw [h3], h4, perm_move hE ?_⟩
    unfold ents
    rw [h3]
    exact (h5.append_left _).trans List.perm_middle
noncomputable def Total (nk : NK) : Prop := ∀ (T : Tab) (k : PKey) (v : Value), WF T → Good k → ¬ inA T.arr.length k → OkV v → NoK (ents T) k → (ents T).length ≤ 5 → ∃ T', nk T k v = some T' ∧ WF T' ∧ (ents T').Perm ((k, v) :: ents T)
structure IG (E0 : List Ent) (T : Tab) (es : List Ent) : Prop where
  wf : WF T
  pm : (es ++ ents T).Perm E0
theorem IG.step {E0 : List Ent} {nk : NK} (N : Total nk) (F : Fine E0) (hc : E0.length ≤ 6) {T : Tab} {k : PKey} {v : Value} {es : List Ent} (I : IG E0 T ((k, v) :: es)) : ∃ T', putBackW nk T k v = some T' ∧ IG E0 T' es := by
  obtain ⟨W, hE⟩ := I
  obtain ⟨hk, hv⟩ := F.ok (k, v) (hE.mem_iff.mp (.head _))
  have hno := F.fresh hE
  unfold putBackW
  by_cases ha : inA T.arr.length k
  · rw [if_pos (show 1 ≤ arrIx k ∧ arrIx k ≤ (T.arr.length : Int) from ha)]
    obtain ⟨l, _, hp, hl⟩ := setA_ents ha hv.ne
    rw [hl hno, List.nil_append] at hp
    exact ⟨_, rfl, W.setA hk ha hv, perm_move hE hp⟩
  · rw [if_neg (show ¬ (1 ≤ arrIx k ∧ arrIx k ≤ (T.arr.length : Int)) from ha)]
    have hlen := hE.length_eq
    simp only [List.length_append, List.length_cons] at hlen
    obtain ⟨T', h1, h2, h5⟩ := N T k v W hk ha hv hno (by omega)
    exact ⟨T', h1, h2, perm_move hE h5⟩
theorem van_fill {nk : NK} {I : Tab → List Ent → Prop} (step : ∀ T k v es, I T ((k, v) :: es) → ∃ T', putBackW nk T k v = some T' ∧ I T' es) {rest : List Ent} : ∀ (A : List Value) (i : Int) (T : Tab), (∀ v ∈ A, v = .none ∨ OkV v) → I T (aents A i ++ rest) → ∃ T', vanW nk A i T = some T' ∧ I T' rest
  | [], _, T, _, h => ⟨T, rfl, h⟩
  | v :: r, i, T, hA, h => by
    rw [aents_cons] at h
    rcases hA v (.head _) with hv | hv
    · subst hv
      exact van_fill step r (i + 1) T (fun u hu => hA u (.tail _ hu)) h
    · unfold slotV at h
      rw [if_neg hv.ne] at h
      obtain ⟨T', h1, h2⟩ := step _ _ _ _ h
      obtain ⟨T'', h3, h4⟩ := van_fill step r (i + 1) T' (fun u hu => hA u (.tail _ hu)) h2
      refine ⟨T'', ?_, h4⟩
      rw [vanW, if_neg hv.ne, if_neg (by rw [hv.hand]; exact Bool.noConfusion), h1]
      exact h3
theorem old_fill {nk : NK} {I : Tab → List Ent → Prop} (step : ∀ T k v es, I T ((k, v) :: es) → ∃ T', putBackW nk T k v = some T' ∧ I T' es) {rest : List Ent} {a : Nat} : ∀ (N : List PNode) (T : Tab), (∀ x ∈ N, NOk a x) → I T (nents N ++ rest) → ∃ T', oldW nk N T = some T' ∧ I T' rest
  | [], T, _, h => ⟨T, rfl, h⟩
  | x :: r, T, hN, h => by
    rw [nents_cons] at h
    have hx := hN x (.head _)
    by_cases hv : x.val = .none
    · rw [slotN_none (hx.1.mp hv)] at h
      obtain ⟨T'', h3, h4⟩ := old_fill step r T (fun u hu => hN u (.tail _ hu)) h
      refine ⟨T'', ?_, h4⟩
      rw [oldW, if_pos hv]
      exact h3
    · obtain ⟨k, hk⟩ := Option.ne_none_iff_exists'.mp fun q => hv (hx.1.mpr q)
      have hs : slotN x = some (k, x.val) := by unfold slotN; rw [if_neg hv, hk]; rfl
      rw [hs] at h
      obtain ⟨T', h1, h2⟩ := step _ _ _ _ h
      obtain ⟨T'', h3, h4⟩ := old_fill step r T' (fun u hu => hN u (.tail _ hu)) h2
      refine ⟨T'', ?_, h4⟩
      rw [oldW, if_neg hv, hk]
      dsimp only
      rw [if_neg (by rw [(hx.2.2 k hk).1.okB]; exact Bool.noConfusion), h1]
      exact h3

end
section
/-! resize and rehash -/
theorem WF.weigh {T : Tab} (W : WF T) : WF (weighT T) := ⟨W.ch, W.nok, W.av, W.al, W.a5, W.f0, W.fl, W.fr⟩
theorem aents_nodup (A : List Value) (i : Int) : ((aents A i).map (·.1)).Nodup := by
  induction A generalizing i with
  | nil => exact List.nodup_nil
  | cons v r ih =>
    rw [aents_cons, List.map_append, List.nodup_append]
    refine ⟨?_, ih _, ?_⟩
    · unfold slotV; split <;> simp
    · intro a ha b hb e
      obtain ⟨x, hx, rfl⟩ := List.mem_map.mp ha
      obtain ⟨y, hy, rfl⟩ := List.mem_map.mp hb
      obtain ⟨j, u, _, _, rfl⟩ := mem_aents.mp hy
      unfold slotV at hx
      split at hx
      · cases hx
      · have := List.mem_singleton.mp hx
        subst this
        injection e with e
        omega
theorem nents_nodup : ∀ {N : List PNode}, (∀ i j k, ky N i = some k → ky N j = some k → i = j) → ((nents N).map (·.1)).Nodup
  | [], _ => List.nodup_nil
  | x :: r, h => by
    rw [nents_cons, List.map_append, List.nodup_append]
    refine ⟨?_, nents_nodup (N := r) fun i j k h1 h2 => by have := h (i + 1) (j + 1) k h1 h2; omega, ?_⟩
    · cases slotN x <;> simp
    · intro a ha b hb e
      obtain ⟨y, hy, rfl⟩ := List.mem_map.mp ha
      obtain ⟨z, hz, rfl⟩ := List.mem_map.mp hb
      have hs : slotN x = some y := by
        cases hq : slotN x with
        | none => rw [hq] at hy; cases hy
        | some q => rw [hq] at hy; rw [List.mem_singleton.mp hy]
      obtain ⟨w, hw, hs2⟩ := mem_nents.mp hz
      obtain ⟨j, hj⟩ := List.mem_iff_getElem?.mp hw
      have := h 0 (j + 1) z.1 (show x.key = some z.1 by rw [← e]; exact (slotN_eq hs).2.1) (show ky r j = _ by rw [ky_of hj]; exact (slotN_eq hs2).2.1)
      omega
theorem WF.ents_ok {T : Tab} (W : WF T) : ∀ e ∈ ents T, Good e.1 ∧ OkV e.2 := fun e he => by
  rcases List.mem_append.mp he with h | h
  · obtain ⟨j, u, hu, hn, rfl⟩ := mem_aents.mp h
    refine ⟨?_, (W.av u (List.mem_of_getElem? hu)).resolve_left hn⟩
    have hj : j < 5 := by
      apply Classical.byContradiction; intro q
      exact hn (W.a5 j u (by omega) hu)
    match j, hj with
    | 0, _ => exact .head _
    | 1, _ => exact .tail _ (.head _)
    | 2, _ => exact .tail _ (.tail _ (.head _))
    | 3, _ => exact .tail _ (.tail _ (.tail _ (.head _)))
    | 4, _ => exact .tail _ (.tail _ (.tail _ (.tail _ (.head _))))
    | j + 5, q => omega
  · obtain ⟨x, hx, hs⟩ := mem_nents.mp h
    obtain ⟨h1, h2, h3⟩ := slotN_eq hs
    exact ⟨((W.nok x hx).2.2 _ h2).1, h3 ▸ (W.nok x hx).2.1 h1⟩
theorem WF.fine {T : Tab} (W : WF T) : Fine (ents T) := by
  refine ⟨?_, W.ents_ok⟩
  unfold ents
  rw [List.map_append, List.nodup_append]
  obtain ⟨C, hC⟩ := W.ch
  refine ⟨aents_nodup _ _, nents_nodup hC.uniq, ?_⟩
  intro a ha b hb e
  obtain ⟨x, hx, rfl⟩ := List.mem_map.mp ha
  obtain ⟨y, hy, rfl⟩ := List.mem_map.mp hb
  obtain ⟨j, u, hu, _, rfl⟩ := mem_aents.mp hx
  obtain ⟨w, hw, hs2⟩ := mem_nents.mp hy
  have h1 := ((W.nok w hw).2.2 _ (slotN_eq hs2).2.1).2
  have hj := (List.getElem?_eq_some_iff.mp hu).1
  rw [← show (PKey.int (1 + (j : Int))) = y.1 from e] at h1
  exact h1 ⟨by show (1 : Int) ≤ 1 + j; omega, by show (1 : Int) + j ≤ _; omega⟩
theorem Fine.cons {E : List Ent} (F : Fine E) {k : PKey} {v : Value} (hk : Good k) (hv : OkV v) (hno : NoK E k) : Fine ((k, v) :: E) := by
  refine ⟨?_, fun e he => ?_⟩
  · rw [List.map_cons, List.nodup_cons]
    exact ⟨fun h => by obtain ⟨e, he, q⟩ := List.mem_map.mp h; exact hno e he q, F.nd⟩
  · rcases List.mem_cons.mp he with h | h
    · rw [h]; exact ⟨hk, hv⟩
    · exact F.ok e h
theorem nents_fresh (n : Nat) : nents (List.replicate n fresh) = [] := by
  induction n with
  | zero => rfl
  | succ n ih => rw [List.replicate_succ, nents_cons, ih]; rfl
theorem ky_fresh (n i : Nat) : ky (List.replicate n fresh) i = none := by
  unfold ky
  rw [List.getElem?_replicate]
  split <;> rfl
theorem nx_fresh (n i : Nat) : nx (List.replicate n fresh) i = -1 := by
  unfold nx
  rw [List.getElem?_replicate]
  split <;> rfl
theorem chains_fresh (n : Nat) : Chains (List.replicate n fresh) (fun _ => []) := by
  refine ⟨fun p i => ⟨fun h => (nomatch h), fun ⟨k, h, _⟩ => ?_⟩, fun _ => trivial, fun _ _ _ h => (nomatch h), fun _ => List.nodup_nil, fun i _ => nx_fresh n i, fun i j k h _ => ?_⟩
  · rw [ky_fresh] at h; cases h
  · rw [ky_fresh] at h; cases h
theorem WF.cut {T : Tab} (W : WF T) {a : Nat} (ha : a ≤ 8) (h : Int) : WF (mkNodes (cutArr T a) h) := by
  refine ⟨⟨_, chains_fresh _⟩, ?_, ?_, ?_, ?_, ?_, ?_, ?_⟩
  · intro x hx
    have := List.eq_of_mem_replicate hx
    subst this
    exact ⟨⟨fun _ => rfl, fun _ => rfl⟩, fun q => absurd rfl q, fun k q => by cases q⟩
  · intro v hv
    rcases List.mem_append.mp hv with h | h
    · exact W.av v (List.mem_of_mem_take h)
    · exact .inl (List.eq_of_mem_replicate h)
  · show (T.arr.take (a : Int).toNat ++ List.replicate ((a : Int).toNat - T.arr.length) Value.none).length ≤ 8
    rw [List.length_append, List.length_take, List.length_replicate, Int.toNat_natCast]; omega
  · intro i v hi hv
    have hv : (T.arr.take (a : Int).toNat ++ List.replicate ((a : Int).toNat - T.arr.length) Value.none)[i]? = some v := hv
    rw [List.getElem?_append] at hv
    split at hv
    · rw [List.getElem?_take] at hv
      split at hv
      · exact W.a5 i v hi hv
      · cases hv
    · exact List.eq_of_mem_replicate (List.mem_of_getElem? hv)
  · show (0 : Int) ≤ (nodeCnt h : Int); omega
  · show (nodeCnt h : Int) ≤ ((List.replicate (nodeCnt h) fresh).length : Int)
    rw [List.length_replicate]; omega
  · intro i h1 h2
    have h1 : (nodeCnt h : Int) ≤ i := h1
    have h2 : i < (List.replicate (nodeCnt h) fresh).length := h2
    rw [List.length_replicate] at h2; omega
theorem cut_len {T : Tab} (a : Nat) (h : Int) : (mkNodes (cutArr T a) h).arr.length = a := by
  show (T.arr.take (a : Int).toNat ++ List.replicate ((a : Int).toNat - T.arr.length) Value.none).length = a
  rw [List.length_append, List.length_take, List.length_replicate, Int.toNat_natCast]; omega
theorem cut_nodes {T : Tab} (a : Nat) (h : Int) : (mkNodes (cutArr T a) h).nodes.length = nodeCnt h := List.length_replicate
theorem cut_perm (T : Tab) (a : Nat) (h : Int) (rest : List Ent) : ((aents (T.arr.drop a) (a + 1) ++ (nents T.nodes.reverse ++ rest)) ++ ents (mkNodes (cutArr T a) h)).Perm (rest ++ ents T) := by
  have e0 : ents (mkNodes (cutArr T a) h) = aents (T.arr.take a) 1 := by
    show aents (T.arr.take (a : Int).toNat ++ List.replicate ((a : Int).toNat - T.arr.length) Value.none) 1 ++ nents (List.replicate (nodeCnt h) fresh) = _
    rw [nents_fresh, aents_append, aents_nones, Int.toNat_natCast, List.append_nil, List.append_nil]
  have e1 : aents T.arr 1 = aents (T.arr.take a) 1 ++ aents (T.arr.drop a) (a + 1) := by
    conv => lhs; rw [← List.take_append_drop a T.arr]
    rw [aents_append]
    by_cases hl : a ≤ T.arr.length
    · rw [List.length_take, Nat.min_eq_left hl, Int.add_comm 1]
    · rw [List.drop_eq_nil_of_le (by omega)]; rfl
  have e2 : (nents T.nodes.reverse).Perm (nents T.nodes) := (List.reverse_perm _).filterMap _
  rw [e0]
  unfold ents
  rw [e1]
  refine (((e2.append_right rest).append_left _).append_right _).trans ?_
  generalize aents (T.arr.drop a) (a + 1) = D
  generalize aents (T.arr.take a) 1 = K
  generalize nents T.nodes = M
  -- (D ++ (M ++ rest)) ++ K ~ rest ++ ((K ++ D) ++ M)
  have h1 : ((D ++ (M ++ rest)) ++ K).Perm (K ++ (D ++ (M ++ rest))) := List.perm_append_comm
  have h2 : (K ++ (D ++ (M ++ rest))).Perm (((K ++ D) ++ M) ++ rest) := by rw [List.append_assoc, List.append_assoc]
  exact (h1.trans h2).trans List.perm_append_comm
theorem resize_fill {nk : NK} {I : Tab → List Ent → Prop} (step : ∀ T k v es, I T ((k, v) :: es) → ∃ T', putBackW nk T k v = some T' ∧ I T' es) {rest : List Ent} {T : Tab} (W : WF T) {a : Nat} {h : Int} (ha : a ≤ 8) (hh : h ≤ 1048576)
    (h0 : I (mkNodes (cutArr T a) h) (aents (T.arr.drop a) (a + 1) ++ (nents T.nodes.reverse ++ rest))) : ∃ T', resizeW nk T a h = some (weighT T') ∧ I T' rest := by
  obtain ⟨T1, h1, h2⟩ := van_fill step _ _ _ (fun v hv => W.av v (List.mem_of_mem_drop hv)) h0
  obtain ⟨T2, h3, h4⟩ := old_fill step (a := T.arr.length) T.nodes.reverse T1 (fun x hx => W.nok x (List.mem_reverse.mp hx)) h2
  refine ⟨T2, ?_, h4⟩
  unfold resizeW
  rw [if_pos ⟨by omega, by omega, hh⟩, Int.toNat_natCast, h1]
  show ((oldW nk T.nodes.reverse T1).map weighT) = _
  rw [h3]; rfl
theorem nodeCnt_ge (h : Int) : h ≤ (nodeCnt h : Int) := by
  unfold nodeCnt
  by_cases h0 : 0 < h
  · rw [if_pos h0]
    unfold log2P
    by_cases h1 : (h - 1).toNat = 0
    · rw [if_pos h1]; show h ≤ 1; omega
    · rw [if_neg h1]
      have := Nat.lt_log2_self (n := (h - 1).toNat)
      rw [show ((Nat.log2 (h - 1).toNat : Int) + 1).toNat = Nat.log2 (h - 1).toNat + 1 by omega]
      omega
  · rw [if_neg h0]; omega

end
section
/-! counting the keys -/
noncomputable def cnt (i : Int) (es : List Ent) : Int := (es.countP (fun e => decide (e.1 = .int i)) : Nat)
noncomputable def vec (es : List Ent) : List Int := [cnt 1 es, cnt 2 es, cnt 3 es + cnt 4 es, cnt 5 es] ++ List.replicate 23 0
noncomputable def whole (es : List Ent) : Int := cnt 1 es + cnt 2 es + cnt 3 es + cnt 4 es + cnt 5 es
theorem cnt_append (i : Int) (a b : List Ent) : cnt i (a ++ b) = cnt i a + cnt i b := by unfold cnt; rw [List.countP_append]; omega
theorem cnt_one (i : Int) (k : PKey) (v : Value) : cnt i [(k, v)] = if k = .int i then 1 else 0 := by
  unfold cnt
  by_cases h : k = .int i
  · rw [if_pos h, List.countP_cons_of_pos (by simpa using h)]; rfl
  · rw [if_neg h, List.countP_cons_of_neg (by simpa using h)]; rfl
theorem whole_append (a b : List Ent) : whole (a ++ b) = whole a + whole b := by
  unfold whole
  rw [cnt_append, cnt_append, cnt_append, cnt_append, cnt_append]
  generalize cnt 1 a = a1, cnt 2 a = a2, cnt 3 a = a3, cnt 4 a = a4, cnt 5 a = a5
  omega
theorem cnt_nil (i : Int) : cnt i [] = 0 := rfl
theorem cnt_perm {i : Int} {a b : List Ent} (h : a.Perm b) : cnt i a = cnt i b := by unfold cnt; rw [h.countP_eq]
theorem cnt_aents (i j : Int) (v : Value) (r : List Value) : cnt i (aents (v :: r) j) = (if v = .none then 0 else if j = i then 1 else 0) + cnt i (aents r (j + 1)) := by
  rw [aents_cons, cnt_append]
  unfold slotV
  by_cases h : v = .none
  · rw [if_pos h, if_pos h]; rfl
  · rw [if_neg h, if_neg h, show (some (PKey.int j, v)).toList = [(PKey.int j, v)] from rfl, cnt_one]
    simp
theorem len_aents (j : Int) (v : Value) (r : List Value) : ((aents (v :: r) j).length : Int) = (if v = .none then 0 else 1) + ((aents r (j + 1)).length : Int) := by
  rw [aents_cons, List.length_append]
  unfold slotV
  by_cases h : v = .none
  · rw [if_pos h, if_pos h]; simp
  · rw [if_neg h, if_neg h]; simp
theorem cnt_anil (i j : Int) : cnt i (aents [] j) = 0 := rfl
theorem len_anil (j : Int) : ((aents [] j).length : Int) = 0 := rfl
theorem good_cnt : ∀ k ∈ goodKs, (inCnt k ∧ ((k = .int 1 ∧ cIx k = 0) ∨ (k = .int 2 ∧ cIx k = 1) ∨ (k = .int 3 ∧ cIx k = 2) ∨ (k = .int 4 ∧ cIx k = 2) ∨ (k = .int 5 ∧ cIx k = 3))) ∨ (¬ inCnt k ∧ k ≠ .int 1 ∧ k ≠ .int 2 ∧ k ≠ .int 3 ∧ k ≠ .int 4 ∧ k ≠ .int 5) := by decide +kernel
theorem countKey_vec {k : PKey} (hk : Good k) (v : Value) (es : List Ent) : countKey k (vec es) = (whole [(k, v)], vec (es ++ [(k, v)])) := by
  unfold whole vec countKey
  rw [cnt_append, cnt_append, cnt_append, cnt_append, cnt_append]
  rw [cnt_one, cnt_one, cnt_one, cnt_one, cnt_one]
  generalize List.replicate 23 (0 : Int) = z
  generalize cnt 1 es = c1
  generalize cnt 2 es = c2
  generalize cnt 3 es = c3
  generalize cnt 4 es = c4
  generalize cnt 5 es = c5
  rcases good_cnt k hk with ⟨hi, h⟩ | ⟨hi, h1, h2, h3, h4, h5⟩
  · rw [if_pos hi]
    rcases h with ⟨rfl, e⟩ | ⟨rfl, e⟩ | ⟨rfl, e⟩ | ⟨rfl, e⟩ | ⟨rfl, e⟩ <;> rw [e] <;> simp
    · omega
    · omega
  · rw [if_neg hi, if_neg h1, if_neg h2, if_neg h3, if_neg h4, if_neg h5]
    simp only [Int.add_zero]
theorem cnLoop_vec {a : Nat} : ∀ (N : List PNode) (t wh : Int) (es : List Ent), (∀ x ∈ N, NOk a x) → cnLoop N t wh (vec es) = some (t + (nents N).length, wh + whole (nents N), vec (es ++ nents N))
  | [], t, wh, es, _ => by
    rw [cnLoop, show nents [] = [] from rfl, List.append_nil]
    show some (t, wh, vec es) = some (t + 0, wh + 0, vec es)
    rw [Int.add_zero, Int.add_zero]
  | x :: r, t, wh, es, h => by
    have hx := h x (.head _)
    rw [cnLoop, nents_cons]
    by_cases hv : x.val = .none
    · rw [if_pos hv, slotN_none (hx.1.mp hv), cnLoop_vec r t wh es fun y hy => h y (.tail _ hy)]
      rfl
    · obtain ⟨k, hk⟩ := Option.ne_none_iff_exists'.mp fun q => hv (hx.1.mpr q)
      have hs : slotN x = some (k, x.val) := by unfold slotN; rw [if_neg hv, hk]; rfl
      rw [if_neg hv, hk, hs]
      dsimp only
      rw [countKey_vec (hx.2.2 k hk).1 x.val]
      dsimp only
      rw [cnLoop_vec r _ _ _ fun y hy => h y (.tail _ hy), List.append_assoc]
      show some (_, _, _) = some (_, _, _)
      rw [show (some (k, x.val)).toList = [(k, x.val)] from rfl, List.length_append, whole_append, List.length_singleton]
      congr 2
      · omega
      · congr 1
        omega
noncomputable def bI (b : Bool) : Int := if b then 1 else 0
theorem cs_all : ∀ b1 b2 b3 b4 b5 : Bool, (fun r : Int × Int => (r.1 = 0 ∧ r.2 = 0) ∨ (r.1 = 1 ∧ r.2 = bI b1) ∨ (r.1 = 2 ∧ r.2 = bI b1 + bI b2) ∨ (r.1 = 4 ∧ r.2 = bI b1 + bI b2 + bI b3 + bI b4) ∨ (r.1 = 8 ∧ r.2 = bI b1 + bI b2 + bI b3 + bI b4 + bI b5))
    (csLoop (bI b1 + bI b2 + bI b3 + bI b4 + bI b5) ([bI b1, bI b2, bI b3 + bI b4, bI b5] ++ List.replicate 23 0) 0 0 0 1) := by decide +kernel
theorem bI_of {x : Int} (h0 : 0 ≤ x) (h1 : x ≤ 1) : ∃ b, x = bI b := by
  by_cases h : x = 0
  · exact ⟨false, h⟩
  · exact ⟨true, by show x = 1; omega⟩
theorem Fine.cnt_le {E : List Ent} (F : Fine E) (i : Int) : ∃ b, cnt i E = bI b := by
  refine bI_of (by unfold cnt; omega) ?_
  have := (List.nodup_iff_count.mp F.nd) (PKey.int i)
  unfold cnt
  rw [List.count_eq_countP, List.countP_map] at this
  have e : List.countP (fun e : Ent => decide (e.1 = PKey.int i)) E = List.countP ((fun x => x == PKey.int i) ∘ fun x => x.1) E := List.countP_congr fun x _ => by simp
  rw [e]; omega
theorem add4 (a b c d : Int) : a + b + (c + d) = a + c + (b + d) := by omega
theorem sub_of {a b c : Int} (h : a + b = c) : a = c - b := by omega
noncomputable def sumI : List Int → Int
  | [] => 0
  | x :: r => x + sumI r
theorem sumI_add (f g : Int → Int) : ∀ L : List Int, sumI (L.map fun i => f i + g i) = sumI (L.map f) + sumI (L.map g)
  | [] => rfl
  | i :: r => by rw [List.map_cons, List.map_cons, List.map_cons, sumI, sumI, sumI, sumI_add f g r, add4]
theorem sumI_zero : ∀ L : List Int, sumI (L.map fun i => cnt i []) = 0
  | [] => rfl
  | _ :: r => by rw [List.map_cons, sumI, sumI_zero r]; rfl
theorem out_sum {a : Nat} {L : List Int} (hL : ∀ k ∈ goodKs, (if inA a k then (0 : Int) else 1) + sumI (L.map fun i => if k = .int i then 1 else 0) = 1) : ∀ {E : List Ent}, (∀ e ∈ E, Good e.1) → (E.countP (outA a) : Int) + sumI (L.map fun i => cnt i E) = E.length
  | [], _ => by rw [sumI_zero]; rfl
  | (k, v) :: r, h => by
    have ih := out_sum hL fun x hx => h x (.tail _ hx)
    have q := hL k (h _ (.head _))
    have e1 : (fun i => cnt i ((k, v) :: r)) = fun i => (if k = .int i then 1 else 0) + cnt i r := funext fun i => by rw [show (k, v) :: r = [(k, v)] ++ r from rfl, cnt_append, cnt_one]
    have e2 : (((k, v) :: r).countP (outA a) : Int) = (if inA a k then 0 else 1) + (r.countP (outA a) : Int) := by
      by_cases q : inA a k
      · rw [if_pos q, List.countP_cons_of_neg (by simp [outA, q]), Int.zero_add]
      · rw [if_neg q, List.countP_cons_of_pos (by simp [outA, q]), Int.add_comm]; rfl
    rw [e1, e2, sumI_add, add4, q, ih, List.length_cons, Int.add_comm]
    rfl
theorem out_cnt {E : List Ent} (h : ∀ e ∈ E, Good e.1) : (E.countP (outA 0) : Int) = E.length ∧ (E.countP (outA 1) : Int) = E.length - cnt 1 E ∧ (E.countP (outA 2) : Int) = E.length - (cnt 1 E + cnt 2 E) ∧ (E.countP (outA 4) : Int) = E.length - (cnt 1 E + cnt 2 E + cnt 3 E + cnt 4 E) ∧ (E.countP (outA 8) : Int) = E.length - (cnt 1 E + cnt 2 E + cnt 3 E + cnt 4 E + cnt 5 E) := by
  have q0 := out_sum (a := 0) (L := []) (by decide +kernel) h
  have q1 := out_sum (a := 1) (L := [1]) (by decide +kernel) h
  have q2 := out_sum (a := 2) (L := [1, 2]) (by decide +kernel) h
  have q4 := out_sum (a := 4) (L := [1, 2, 3, 4]) (by decide +kernel) h
  have q8 := out_sum (a := 8) (L := [1, 2, 3, 4, 5]) (by decide +kernel) h
  simp only [List.map, sumI, Int.add_zero, ← Int.add_assoc] at q0 q1 q2 q4 q8
  exact ⟨q0, sub_of q1, sub_of (by rw [← Int.add_assoc]; exact q2), sub_of (by rw [← Int.add_assoc, ← Int.add_assoc, ← Int.add_assoc]; exact q4), sub_of (by rw [← Int.add_assoc, ← Int.add_assoc, ← Int.add_assoc, ← Int.add_assoc]; exact q8)⟩
/-! the array's count, by truths alone -/
noncomputable def nz (v : Value) : Bool := if v = .none then false else true
noncomputable def cntB : List Bool → Int
  | [] => 0
  | b :: r => bI b + cntB r
noncomputable def caB (l : List Bool) : Nat → Nat → Nat → Nat → Int → List Int → Int × List Int
  | 0, _, _, _, t, ns => (t, ns)
  | n + 1, st, a, lim, t, ns =>
    if min lim l.length ≤ a then (t, ns) else
    caB l n (st + 1) (min lim l.length) (lim * 2) (t + cntB ((l.drop a).take (min lim l.length - a))) (ns.set st (ns.getD st 0 + cntB ((l.drop a).take (min lim l.length - a))))
noncomputable def cntAB (i : Int) : Int → List Bool → Int
  | _, [] => 0
  | j, b :: r => (if j = i then bI b else 0) + cntAB i (j + 1) r
noncomputable def vecB (l : List Bool) : List Int := [cntAB 1 1 l, cntAB 2 1 l, cntAB 3 1 l + cntAB 4 1 l, cntAB 5 1 l] ++ List.replicate 23 0
theorem bI_nz (v : Value) : bI (nz v) = if v = .none then 0 else 1 := by
  unfold nz
  by_cases h : v = .none
  · rw [if_pos h, if_pos h]; rfl
  · rw [if_neg h, if_neg h]; rfl
theorem cntP_B : ∀ l : List Value, cntP l = cntB (l.map nz)
  | [] => rfl
  | v :: r => by rw [cntP, List.map_cons, cntB, cntP_B r, bI_nz]
theorem caLoop_B (A : List Value) : ∀ (n st a lim : Nat) (t : Int) (ns : List Int), caLoop A n st a lim t ns = caB (A.map nz) n st a lim t ns
  | 0, _, _, _, _, _ => rfl
  | n + 1, st, a, lim, t, ns => by rw [caLoop, caB, caLoop_B A n, List.length_map, ← List.map_drop, ← List.map_take, ← cntP_B]
theorem cnt_B (i : Int) : ∀ (A : List Value) (j : Int), cnt i (aents A j) = cntAB i j (A.map nz)
  | [], _ => rfl
  | v :: r, j => by
    rw [cnt_aents, List.map_cons, cntAB, cnt_B i r, bI_nz]
    by_cases h : v = .none
    · rw [if_pos h, if_pos h, ite_self]
    · rw [if_neg h, if_neg h]
theorem len_B : ∀ (A : List Value) (j : Int), ((aents A j).length : Int) = cntB (A.map nz)
  | [], _ => rfl
  | v :: r, j => by rw [len_aents, List.map_cons, cntB, len_B r, bI_nz]
abbrev CaOk (l : List Bool) : Prop := caB l 27 0 0 1 0 (List.replicate 27 0) = (cntB l, vecB l)
theorem ca_all : ∀ a b c d e : Bool, CaOk [] ∧ CaOk [a] ∧ CaOk [a, b] ∧ CaOk [a, b, c] ∧ CaOk [a, b, c, d] ∧ CaOk [a, b, c, d, e] ∧ CaOk [a, b, c, d, e, false] ∧ CaOk [a, b, c, d, e, false, false] ∧ CaOk [a, b, c, d, e, false, false, false] := by decide +kernel
theorem caLoop_vec {A : List Value} (hl : A.length ≤ 8) (h5 : ∀ i v, 5 ≤ i → A[i]? = some v → v = .none) : caLoop A 27 0 0 1 0 (List.replicate 27 0) = (((aents A 1).length : Int), vec (aents A 1)) := by
  unfold vec
  rw [caLoop_B, len_B, cnt_B, cnt_B, cnt_B, cnt_B, cnt_B]
  show CaOk (A.map nz)
  match A, hl, h5 with
  | [], _, h5 => exact (ca_all true true true true true).1
  | [a], _, h5 => exact (ca_all (nz a) true true true true).2.1
  | [a, b], _, h5 => exact (ca_all (nz a) (nz b) true true true).2.2.1
  | [a, b, c], _, h5 => exact (ca_all (nz a) (nz b) (nz c) true true).2.2.2.1
  | [a, b, c, d], _, h5 => exact (ca_all (nz a) (nz b) (nz c) (nz d) true).2.2.2.2.1
  | [a, b, c, d, e], _, h5 => exact (ca_all (nz a) (nz b) (nz c) (nz d) (nz e)).2.2.2.2.2.1
  | [a, b, c, d, e, f], _, h5 =>
    obtain rfl : f = Value.none := h5 5 f (by decide) rfl
    exact (ca_all (nz a) (nz b) (nz c) (nz d) (nz e)).2.2.2.2.2.2.1
  | [a, b, c, d, e, f, g], _, h5 =>
    obtain rfl : f = Value.none := h5 5 f (by decide) rfl
    obtain rfl : g = Value.none := h5 6 g (by decide) rfl
    exact (ca_all (nz a) (nz b) (nz c) (nz d) (nz e)).2.2.2.2.2.2.2.1
  | [a, b, c, d, e, f, g, i], _, h5 =>
    obtain rfl : f = Value.none := h5 5 f (by decide) rfl
    obtain rfl : g = Value.none := h5 6 g (by decide) rfl
    obtain rfl : i = Value.none := h5 7 i (by decide) rfl
    exact (ca_all (nz a) (nz b) (nz c) (nz d) (nz e)).2.2.2.2.2.2.2.2
  | _ :: _ :: _ :: _ :: _ :: _ :: _ :: _ :: _ :: _, hl, _ => exact absurd hl (by simp only [List.length_cons]; omega)

end
section
/-! the laws of set, resize and next -/
theorem WF.whole_arr {T : Tab} (W : WF T) : ((aents T.arr 1).length : Int) = whole (aents T.arr 1) := by
  have h := (out_cnt (E := aents T.arr 1) fun e he => (W.ents_ok e (List.mem_append_left _ he)).1).2.2.2.2
  rw [List.countP_eq_zero.mpr] at h
  · unfold whole; omega
  · intro e he
    obtain ⟨j, u, hu, _, rfl⟩ := mem_aents.mp he
    have := (List.getElem?_eq_some_iff.mp hu).1
    have := W.al
    simp only [outA, Bool.not_eq_true, Bool.not_eq_false', decide_eq_true_eq]
    exact ⟨by show (1 : Int) ≤ 1 + j; omega, by show (1 : Int) + j ≤ _; omega⟩
theorem rehash_put {nk : NK} {T : Tab} (W : WF T) {k : PKey} {v : Value} (hk : Good k) (hv : OkV v) (hno : NoK (ents T) k) (hl : (ents T).length ≤ 1000) :
    ∃ T', ((rehashW (newKeyW nk) T k).bind fun T1 => putBackW (newKeyW nk) T1 k v) = some T' ∧ WF T' ∧ (ents T').Perm ((k, v) :: ents T) := by
  have F := W.fine.cons hk hv hno
  obtain ⟨m, hm⟩ : ∃ m, m = newKeyW nk := ⟨_, rfl⟩
  rw [← hm]
  unfold rehashW
  rw [caLoop_vec W.al W.a5]
  dsimp only
  rw [cnLoop_vec T.nodes 0 0 _ W.nok]
  dsimp only [Option.bind]
  rw [countKey_vec hk v]
  dsimp only
  obtain ⟨b1, h1⟩ := F.cnt_le 1
  obtain ⟨b2, h2⟩ := F.cnt_le 2
  obtain ⟨b3, h3⟩ := F.cnt_le 3
  obtain ⟨b4, h4⟩ := F.cnt_le 4
  obtain ⟨b5, h5⟩ := F.cnt_le 5
  have hp : (aents T.arr 1 ++ nents T.nodes ++ [(k, v)]).Perm ((k, v) :: ents T) := List.perm_append_comm
  have hvec : vec (aents T.arr 1 ++ nents T.nodes ++ [(k, v)]) = [bI b1, bI b2, bI b3 + bI b4, bI b5] ++ List.replicate 23 0 := by
    unfold vec
    rw [cnt_perm hp, cnt_perm hp, cnt_perm hp, cnt_perm hp, cnt_perm hp, h1, h2, h3, h4, h5]
  have hw : ((aents T.arr 1).length : Int) + (0 + whole (nents T.nodes) + whole [(k, v)]) = bI b1 + bI b2 + bI b3 + bI b4 + bI b5 := by
    rw [W.whole_arr, Int.zero_add, ← Int.add_assoc, ← whole_append, ← whole_append]
    unfold whole
    rw [cnt_perm hp, cnt_perm hp, cnt_perm hp, cnt_perm hp, cnt_perm hp, h1, h2, h3, h4, h5]
  rw [hvec, hw]
  have hcs := cs_all b1 b2 b3 b4 b5
  generalize csLoop (bI b1 + bI b2 + bI b3 + bI b4 + bI b5) ([bI b1, bI b2, bI b3 + bI b4, bI b5] ++ List.replicate 23 0) 0 0 0 1 = r at hcs ⊢
  obtain ⟨o0, o1, o2, o4, o8⟩ := out_cnt (E := (k, v) :: ents T) fun e he => (F.ok e he).1
  rw [h1] at o1 o2 o4 o8
  rw [h2] at o2 o4 o8
  rw [h3, h4] at o4 o8
  rw [h5] at o8
  have hz : ∃ z : Nat, r.1 = z ∧ z ≤ 8 ∧ ((((k, v) :: ents T).countP (outA z) : Nat) : Int) = ((k, v) :: ents T).length - r.2 := by
    rcases hcs with h | h | h | h | h
    · exact ⟨0, h.1, by omega, by rw [o0, h.2]; omega⟩
    · exact ⟨1, h.1, by omega, by rw [o1, h.2]⟩
    · exact ⟨2, h.1, by omega, by rw [o2, h.2]⟩
    · exact ⟨4, h.1, by omega, by rw [o4, h.2]⟩
    · exact ⟨8, h.1, by omega, by rw [o8, h.2]⟩
  obtain ⟨z, hz1, hz2, hz3⟩ := hz
  have hle := List.countP_le_length (p := outA z) (l := (k, v) :: ents T)
  have hlE : (((k, v) :: ents T).length : Int) = (aents T.arr 1).length + (nents T.nodes).length + 1 := by
    unfold ents; rw [List.length_cons, List.length_append]; omega
  have hh : ((aents T.arr 1).length : Int) + (0 + (nents T.nodes).length + 1) - r.2 = (((k, v) :: ents T).countP (outA z) : Nat) := by rw [hz3, hlE]; omega
  rw [hz1, hh]
  have hc : ((k, v) :: ents T).countP (outA z) ≤ nodeCnt (((k, v) :: ents T).countP (outA z) : Nat) := by
    have := nodeCnt_ge (((k, v) :: ents T).countP (outA z) : Nat)
    omega
  have hl2 : ((k, v) :: ents T).length ≤ 1001 := by rw [List.length_cons]; omega
  obtain ⟨T1, e1, I1⟩ := resize_fill (nk := newKeyW nk) (fun T k v es => IR.step F hc) W hz2 (h := (((k, v) :: ents T).countP (outA z) : Nat)) (by omega) (rest := [(k, v)])
    ⟨W.cut hz2 _, cut_len _ _, cut_nodes _ _, cut_perm T z _ [(k, v)]⟩
  rw [hm, e1]
  dsimp only
  obtain ⟨T2, e2, I2⟩ := IR.step (nk := nk) F hc (T := weighT T1) ⟨I1.wf.weigh, I1.al, I1.nl, I1.pm⟩
  exact ⟨T2, e2, I2.wf, I2.pm⟩
theorem newKey_total (nk : NK) : Total (newKeyW (newKeyW nk)) := by
  intro T k v W hk ha hv hno hl
  by_cases room : ∃ i, i < T.nodes.length ∧ ky T.nodes i = none
  · obtain ⟨T', h1, h2, h3, h4, h5⟩ := newKey_room (nk := newKeyW nk) W hk ha hv (W.not_in hno) room
    refine ⟨T', h1, h2, ?_⟩
    unfold ents
    rw [h3]
    exact (h5.append_left _).trans List.perm_middle
  · have hf : ∀ i, i < T.nodes.length → ky T.nodes i ≠ none := fun i hi e => room ⟨i, hi, e⟩
    obtain ⟨m, hm⟩ : ∃ m, m = newKeyW nk := ⟨_, rfl⟩
    rw [← hm]
    unfold newKeyW
    by_cases h0 : T.nodes.length = 0
    · rw [if_pos h0, hm]
      exact rehash_put W hk hv hno (by omega)
    · rw [if_neg h0]
      have hn : 0 < T.nodes.length := by omega
      have hpl := mpN_lt hn k
      have hpx := List.getElem?_eq_getElem hpl
      rw [show (mainP T.nodes.length k).toNat = mpN T.nodes.length k from rfl, hpx]
      dsimp only [Option.bind]
      have hv0 : T.nodes[mpN T.nodes.length k].val ≠ .none := fun e => hf _ hpl (by rw [ky_of hpx]; exact (W.nok _ (List.mem_of_getElem? hpx)).1.mp e)
      have hf0 := W.f0
      have hfl := W.fl
      rw [if_neg hv0, if_neg (by omega), freePos_miss (by omega) hf]
      dsimp only
      rw [if_pos (by omega), hm]
      exact rehash_put (T := { T with free := ((0 : Nat) : Int) }) (W.upd rfl W.ch W.nok (by omega) (by omega) fun i _ hi => hf i hi) hk hv hno (Nat.le_trans hl (by omega))

end
section
theorem Chains.same {N N' : List PNode} {C : Nat → List Nat} (W : Chains N C) (hl : N'.length = N.length) (hk : ∀ i, ky N' i = ky N i) (hn : ∀ i, nx N' i = nx N i) : Chains N' C := by
  refine ⟨fun p i => ?_, fun p => (W.lk p).congr fun i _ => hn i, W.head, W.nd, fun i h => ?_, fun i j k h1 h2 => ?_⟩
  · rw [hk, hl]; exact W.mem p i
  · rw [hn]; exact W.nil i (by rw [← hk]; exact h)
  · rw [hk] at h1 h2; exact W.uniq i j k h1 h2
theorem newKey_two : newKey FU = newKeyW (newKeyW (newKey 0)) := rfl
theorem set_law {T : Tab} (W : WF T) {k : PKey} {v : Value} (hk : Good k) (hv : OkV v) (hl : (ents T).length ≤ 5) : ∃ T', setT T k v = some T' ∧ WF T' ∧ (ents T').length ≤ (ents T).length + 1 := by
  unfold setT
  by_cases ha : inA T.arr.length k
  · rw [if_pos (show 1 ≤ arrIx k ∧ arrIx k ≤ (T.arr.length : Int) from ha)]
    obtain ⟨l, _, hp, _⟩ := setA_ents ha hv.ne
    refine ⟨_, rfl, W.setA hk ha hv, ?_⟩
    have := hp.length_eq
    rw [List.length_append, List.length_cons] at this
    omega
  · rw [if_neg (show ¬ (1 ≤ arrIx k ∧ arrIx k ≤ (T.arr.length : Int)) from ha)]
    obtain ⟨C, hC⟩ := W.ch
    by_cases hex : ∃ i, ky T.nodes i = some k
    · obtain ⟨i, hi⟩ := hex
      rw [find_hit hC hi]
      dsimp only [Option.bind]
      rw [if_neg (by omega)]
      obtain ⟨x, hx, hxk⟩ := ky_get hi
      have hil := ky_lt hi
      unfold updN
      rw [if_neg (by omega), Int.toNat_natCast, hx]
      have hxm := W.nok x (List.mem_of_getElem? hx)
      have hkE : ∀ j, ky (T.nodes.set i { x with val := v }) j = ky T.nodes j := fun j => by
        rw [ky_set _ hil]
        by_cases e : i = j
        · rw [if_pos e, ← e, ky_of hx]
        · rw [if_neg e]
      have hnE : ∀ j, nx (T.nodes.set i { x with val := v }) j = nx T.nodes j := fun j => by
        rw [nx_set _ hil]
        by_cases e : i = j
        · rw [if_pos e, ← e, nx_of hx]
        · rw [if_neg e]
      refine ⟨_, rfl, W.upd (f := T.free) (List.length_set ..) ⟨C, hC.same (List.length_set ..) hkE hnE⟩ (fun y hy => ?_) W.f0 W.fl (fun j h1 h2 => by rw [hkE]; exact W.fr j h1 h2), ?_⟩
      · rcases List.mem_or_eq_of_mem_set hy with h | h
        · exact W.nok y h
        · subst h
          exact ⟨⟨fun e => absurd e hv.ne, fun e => by rw [show x.key = none from e] at hxk; cases hxk⟩, fun _ => hv, hxm.2.2⟩
      · have := (nset_perm (y := { x with val := v }) hx).length_eq
        have h1 : (slotN { x with val := v }).toList.length ≤ 1 := by cases slotN { x with val := v } <;> simp
        unfold ents
        rw [List.length_append, List.length_append] at this
        show (aents T.arr 1 ++ nents (T.nodes.set i { x with val := v })).length ≤ _
        rw [List.length_append, List.length_append]
        omega
    · have hno : ∀ i, ky T.nodes i ≠ some k := fun i e => hex ⟨i, e⟩
      rw [find_miss hC hno]
      dsimp only [Option.bind]
      rw [if_pos (by omega), newKey_two]
      have hno2 : NoK (ents T) k := fun e he q => by
        rcases List.mem_append.mp he with h | h
        · obtain ⟨j, u, hu, _, rfl⟩ := mem_aents.mp h
          have := (List.getElem?_eq_some_iff.mp hu).1
          subst q
          exact ha ⟨by show (1 : Int) ≤ 1 + j; omega, by show (1 : Int) + j ≤ _; omega⟩
        · obtain ⟨x, hx, hs⟩ := mem_nents.mp h
          obtain ⟨j, hj⟩ := List.mem_iff_getElem?.mp hx
          exact hno j (by rw [ky_of hj, ← q]; exact (slotN_eq hs).2.1)
      obtain ⟨T', h1, h2, h3⟩ := newKey_total (newKey 0) T k v W hk ha hv hno2 hl
      exact ⟨T', h1, h2, by rw [h3.length_eq, List.length_cons]; omega⟩
theorem resize_law {T : Tab} (W : WF T) {a : Nat} {h : Int} (ha : a ≤ 8) (hh : h ≤ 1048576) (hl : (ents T).length ≤ 6) : ∃ TN, resizeW (newKey 2) T a h = some TN ∧ WF TN ∧ (ents TN).Perm (ents T) := by
  obtain ⟨T1, e1, I1⟩ := resize_fill (nk := newKey 2) (I := IG (ents T)) (rest := []) (fun T k v es => IG.step (newKey_total (newKey 0)) W.fine hl) W ha hh ⟨W.cut ha h, cut_perm T a h []⟩
  exact ⟨_, e1, I1.wf.weigh, I1.pm⟩
theorem GoneFrom.skip {T : Tab} {i : Nat} {es : List Ent} (h : GoneFrom T (i + 1) es) (hn : nextP T i = nextP T (i + 1)) : GoneFrom T i es := by
  cases h with
  | nil h => exact .nil (hn.trans h)
  | cons h1 h2 h3 h4 => exact .cons (hn.trans h1) h2 h3 h4
theorem gone_slots {T : Tab} (h : ∀ i e, (slots T)[i]? = some (some e) → KeyOk e.1 ∧ idxP T e.1 = some i) : ∀ n i, (slots T).length - i ≤ n → GoneFrom T i (((slots T).drop i).filterMap id)
  | 0, i, hn => by
    rw [List.drop_eq_nil_of_le (by omega)]
    exact .nil (by unfold nextP; rw [List.drop_eq_nil_of_le (by omega)]; rfl)
  | n + 1, i, hn => by
    by_cases hi : i < (slots T).length
    · have hd := List.drop_eq_getElem_cons hi
      have ih := gone_slots h n (i + 1) (by omega)
      have hx := List.getElem?_eq_getElem hi
      rw [hd, List.filterMap_cons]
      cases hq : (slots T)[i] with
      | none =>
        refine ih.skip ?_
        unfold nextP
        rw [hd, List.findSome?_cons, hq]; rfl
      | some e =>
        rw [hq] at hx
        obtain ⟨h1, h2⟩ := h i e hx
        refine .cons (k := e.1) (v := e.2) ?_ h1 h2 ih
        unfold nextP
        rw [hd, List.findSome?_cons, hq]; rfl
    · exact gone_slots h n i (by omega)
theorem gone_law {T : Tab} (W : WF T) : GoneFrom T 0 (ents T) := by
  have e : ents T = ((slots T).drop 0).filterMap id := by
    rw [List.drop_zero]
    unfold slots ents aents nents
    rw [List.filterMap_append, List.filterMap_map]; rfl
  rw [e]
  obtain ⟨C, hC⟩ := W.ch
  refine gone_slots (fun i e he => ?_) _ 0 (Nat.le_refl _)
  have hle : (slotA T.arr 1).length = T.arr.length := slotA_len _ _
  unfold slots at he
  rw [List.getElem?_append] at he
  split at he
  · rename_i hlt
    rw [hle] at hlt
    rw [slotA_get] at he
    obtain ⟨u, hu, q⟩ := Option.map_eq_some_iff.mp he
    by_cases hn : u = .none
    · rw [if_pos hn] at q; cases q
    · rw [if_neg hn] at q
      cases q
      refine ⟨trivial, ?_⟩
      have hin : inArr T (.int (1 + (i : Int))) := ⟨by show (1 : Int) ≤ 1 + i; omega, by show (1 : Int) + i ≤ _; omega⟩
      unfold idxP
      rw [if_pos hin]
      congr 1
      show ((1 : Int) + i - 1).toNat = i
      omega
  · rename_i hlt
    rw [hle] at hlt he
    rw [List.getElem?_map] at he
    obtain ⟨x, hx, hs⟩ := Option.map_eq_some_iff.mp he
    obtain ⟨h1, h2, h3⟩ := slotN_eq hs
    obtain ⟨hg, hna⟩ := (W.nok x (List.mem_of_getElem? hx)).2.2 _ h2
    refine ⟨hg.keyOk, ?_⟩
    unfold idxP
    rw [if_neg (show ¬ inArr T e.1 from hna), find_hit hC (i := i - T.arr.length) (by rw [ky_of hx, h2])]
    dsimp only [Option.bind]
    rw [if_neg (by omega), Int.toNat_natCast]
    congr 1
    omega
theorem WF.has_key {T : Tab} (W : WF T) : ∀ x ∈ T.nodes, x.val ≠ .none → x.key ≠ none := fun x hx h e => h ((W.nok x hx).1.mpr e)
theorem empty_wf : WF emptyT := ⟨⟨_, chains_fresh 0⟩, fun x h => (nomatch h), fun x h => (nomatch h), by decide, fun i v _ h => (nomatch h), Int.le_refl _, Int.le_refl _, fun i _ h => absurd h (Nat.not_lt_zero _)⟩

end
section
/-! what _law_sizes_right needs of a good table -/
theorem small_key : ∀ k ∈ goodKs, (kText k).length ≤ 40 := by decide +kernel
theorem small_pair : ∀ k ∈ goodKs, ∀ i ∈ [(10 : Int), 11, 12, 13, 14, 15], (pText k i).length ≤ 1000 := by decide +kernel
theorem small_ent {e : Ent} (hk : Good e.1) (hv : OkV e.2) : SmallE e := by
  refine ⟨⟨Nat.le_trans (small_key _ hk) (by decide), ?_⟩, ?_⟩
  · have h : ∀ k ∈ goodKs, (match k with | .int j => decide (j.natAbs.log2 < 1920) | .bts b => decide (b.length ≤ 100)) = true := by decide +kernel
    have := h _ hk
    cases hq : e.1 with
    | int j => rw [hq] at this; exact of_decide_eq_true this
    | bts b => rw [hq] at this; exact of_decide_eq_true this
  · obtain ⟨i, t, h1, h2, h3⟩ := hv
    refine ⟨i, t, h1, ?_, small_pair _ hk i ?_⟩
    · have : i.natAbs < (16 : Int).natAbs := Int.natAbs_lt_natAbs_of_nonneg_of_lt (Int.le_trans (by decide) h2) h3
      have h : ∀ n, n < 16 → n.log2 < 1920 := by decide +kernel
      exact h _ this
    · obtain ⟨z, rfl⟩ : ∃ z, i = 10 + z := ⟨i - 10, by omega⟩
      rcases in6 (x := z) (by omega) (by omega) with h | h | h | h | h | h <;> subst h <;> simp
theorem sizes_law {T : Tab} (W : WF T) (hl : (ents T).length ≤ 6) {i j : Int} (hi0 : 0 ≤ i) (hi : i < 4) (hj0 : 0 ≤ j) (hj : j < 4) :
    ∃ TN, WF TN ∧ (ents TN).Perm (ents T) ∧ ((slotOf i > 4194304 ∨ placeOf j > 1048576) → TN = T) ∧
      (¬ (slotOf i > 4194304 ∨ placeOf j > 1048576) → resizeW (newKey 2) T (slotOf i) (placeOf j) = some TN ∧ (∀ x ∈ TN.nodes, x.val ≠ .none → x.key ≠ none) ∧ GoneFrom TN 0 (ents TN) ∧ (ents TN).Perm (ents T)) := by
  by_cases h : slotOf i > 4194304 ∨ placeOf j > 1048576
  · exact ⟨T, W, .refl _, fun _ => rfl, fun q => absurd h q⟩
  · obtain ⟨a, ha, ha8⟩ : ∃ a : Nat, slotOf i = (a : Int) ∧ a ≤ 8 := by
      have : i = 0 ∨ i = 1 ∨ i = 2 ∨ i = 3 := in4 hi0 hi
      rcases this with q | q | q | q <;> subst q
      · exact absurd (.inl (by decide)) h
      · exact absurd (.inl (by decide)) h
      · exact ⟨2, by decide, by decide⟩
      · exact ⟨0, by decide, by decide⟩
    obtain ⟨TN, h1, h2, h3⟩ := resize_law W ha8 (h := placeOf j) (by omega) hl
    rw [← ha] at h1
    exact ⟨TN, h2, h3, fun q => absurd q h, fun _ => ⟨h1, h2.has_key, gone_law h2, h3⟩⟩

end
section
/-! the small tables of _law_kept_right -/
noncomputable def ktab : List Value → Tab
  | [] => emptyT
  | [a] => ⟨[a], [], 0, 72⟩
  | [a, b] => ⟨[a, b], [], 0, 88⟩
  | a :: b :: c :: _ => ⟨[a, b, c, .none], [], 0, 120⟩
@[irreducible] noncomputable def kset (T : Tab) (i : Int) (v : Value) : Tab := (setT T (.int i) v).getD emptyT
structure KeptA (T0 : Tab) (n : Int) (first kept more : Value) (tk : Tok) : Prop where
  len : lenP T0 = some n
  s1 : setT T0 (.int 0) first = some (kset T0 0 first)
  g0 : getInt (kset T0 0 first) 0 = some first
  g1 : getInt (kset T0 0 first) 1 = some ((getInt (kset T0 0 first) 1).getD .none)
  len1 : lenP (kset T0 0 first) = some n
  s2 : setT (kset T0 0 first) (.int (n + 1)) kept = some (kset (kset T0 0 first) (n + 1) kept)
  g2 : getInt (kset (kset T0 0 first) (n + 1) kept) (n + 1) = some kept
  g20 : getInt (kset (kset T0 0 first) (n + 1) kept) 0 = some first
  s3 : setT (kset (kset T0 0 first) (n + 1) kept) (.int (n + 1)) first = some (kset (kset (kset T0 0 first) (n + 1) kept) (n + 1) first)
  s4 : setT (kset (kset (kset T0 0 first) (n + 1) kept) (n + 1) first) (.int 0) (.int (n + 1) tk) = some (kset (kset (kset (kset T0 0 first) (n + 1) kept) (n + 1) first) 0 (.int (n + 1) tk))
  g40 : getInt (kset (kset (kset (kset T0 0 first) (n + 1) kept) (n + 1) first) 0 (.int (n + 1) tk)) 0 = some (.int (n + 1) tk)
  g41 : getInt (kset (kset (kset (kset T0 0 first) (n + 1) kept) (n + 1) first) 0 (.int (n + 1) tk)) (n + 1) = some first
  s5 : setT (kset (kset (kset (kset T0 0 first) (n + 1) kept) (n + 1) first) 0 (.int (n + 1) tk)) (.int 0) first = some (kset (kset (kset (kset (kset T0 0 first) (n + 1) kept) (n + 1) first) 0 (.int (n + 1) tk)) 0 first)
  s6 : setT (kset (kset (kset (kset (kset T0 0 first) (n + 1) kept) (n + 1) first) 0 (.int (n + 1) tk)) 0 first) (.int (n + 1)) more = some (kset (kset (kset (kset (kset (kset T0 0 first) (n + 1) kept) (n + 1) first) 0 (.int (n + 1) tk)) 0 first) (n + 1) more)
structure KeptB (T0 : Tab) (n : Int) (first kept u : Value) : Prop where
  len : lenP T0 = some n
  s1 : setT T0 (.int 0) first = some (kset T0 0 first)
  g0 : getInt (kset T0 0 first) 0 = some first
  g1 : getInt (kset T0 0 first) 1 = some u
  s2 : setT (kset T0 0 first) (.int 0) u = some (kset (kset T0 0 first) 0 u)
  s3 : setT (kset (kset T0 0 first) 0 u) (.int 1) kept = some (kset (kset (kset T0 0 first) 0 u) 1 kept)
  g31 : getInt (kset (kset (kset T0 0 first) 0 u) 1 kept) 1 = some kept
  g30 : getInt (kset (kset (kset T0 0 first) 0 u) 1 kept) 0 = some u
theorem ktab_1 (x : Int) (t : Tok) : setT emptyT (.int 1) (.int x t) = some (ktab [.int x t]) := by kernel_rfl
theorem ktab_2 (x y : Int) (t u : Tok) : setT (ktab [.int x t]) (.int 2) (.int y u) = some (ktab [.int x t, .int y u]) := by kernel_rfl
theorem ktab_3 (x y z : Int) (t u r : Tok) : setT (ktab [.int x t, .int y u]) (.int 3) (.int z r) = some (ktab [.int x t, .int y u, .int z r]) := by kernel_rfl
inductive KVs : List Value → Prop
  | k0 : KVs []
  | k1 (x : Int) (t : Tok) : KVs [.int x t]
  | k2 (x y : Int) (t u : Tok) : KVs [.int x t, .int y u]
  | k3 (x y z : Int) (t u r : Tok) : KVs [.int x t, .int y u, .int z r]
theorem KVs.set {vs : List Value} (h : KVs vs) (hl : vs.length < 3) (x : Int) (t : Tok) : setT (ktab vs) (.int (vs.length + 1)) (.int x t) = some (ktab (vs ++ [.int x t])) ∧ KVs (vs ++ [.int x t]) := by
  cases h with
  | k0 => exact ⟨ktab_1 x t, .k1 ..⟩
  | k1 => exact ⟨ktab_2 .., .k2 ..⟩
  | k2 => exact ⟨ktab_3 .., .k3 ..⟩
  | k3 => exact absurd hl (Nat.lt_irrefl 3)
inductive Other : Value → Prop
  | none : Other .none
  | bytes (a : Array UInt8) (t : Tok) : Other (.bytes a t)
  | bool (b : Bool) : Other (.bool b)
  | ref (o : Addr) : Other (.ref o)
  | zero (t : Tok) : Other (.int 0 t)
theorem Other.hand {v : Value} (h : Other v) : handedIn v = true := by cases h <;> rfl
theorem kept_a {vs : List Value} (h : KVs vs) {first : Value} (ho : Other first) (a b : Array UInt8) (t u tk : Tok) : KeptA (ktab vs) (vs.length : Int) first (.bytes a t) (.bytes b u) tk := by
  cases h <;> cases ho <;> exact ⟨by kernel_rfl, by kernel_rfl, by kernel_rfl, by kernel_rfl, by kernel_rfl, by kernel_rfl, by kernel_rfl, by kernel_rfl, by kernel_rfl, by kernel_rfl, by kernel_rfl, by kernel_rfl, by kernel_rfl, by kernel_rfl⟩
theorem kept_b {vs : List Value} (h : KVs vs) : ∃ u, (u = .none ∨ ∃ x r, u = .int x r) ∧ ∀ (a : Array UInt8) (t t1 : Tok), KeptB (ktab vs) (vs.length : Int) (.int 1 t1) (.bytes a t) u := by
  cases h with
  | k0 => exact ⟨.none, .inl rfl, fun a t2 t1 => ⟨by kernel_rfl, by kernel_rfl, by kernel_rfl, by kernel_rfl, by kernel_rfl, by kernel_rfl, by kernel_rfl, by kernel_rfl⟩⟩
  | k1 x t => exact ⟨.int x t, .inr ⟨_, _, rfl⟩, fun a t2 t1 => ⟨by kernel_rfl, by kernel_rfl, by kernel_rfl, by kernel_rfl, by kernel_rfl, by kernel_rfl, by kernel_rfl, by kernel_rfl⟩⟩
  | k2 x y t u => exact ⟨.int x t, .inr ⟨_, _, rfl⟩, fun a t2 t1 => ⟨by kernel_rfl, by kernel_rfl, by kernel_rfl, by kernel_rfl, by kernel_rfl, by kernel_rfl, by kernel_rfl, by kernel_rfl⟩⟩
  | k3 x y z t u r => exact ⟨.int x t, .inr ⟨_, _, rfl⟩, fun a t2 t1 => ⟨by kernel_rfl, by kernel_rfl, by kernel_rfl, by kernel_rfl, by kernel_rfl, by kernel_rfl, by kernel_rfl, by kernel_rfl⟩⟩

end
section
open PySem.SeqAt PySem.Builtin
theorem wd_P37_0 : True := by
  k_with_none
  exact trivial
theorem wd_P37_63 : True := by
  k_with "KD" => first | exact dlt (by assumption) (by first | decide | omega) | exact dlt1 (by assumption) (by first | decide | omega) | exact dlt0 (by assumption) | ktr_room
  k_with "KU" => first | exact ult (by assumption) (by first | decide | omega) | ktr_units
  k_with "ENTER" => (refine' enter_ ?zqk1 ?zqk2 ?zqk3 ?zqk4 ?zqk5 ?zqkA ?zqkF ?zqkK ?zqk6 ?zqk7 ?zqk8 ?zqk9 ?zqkB ?_ ?zqc2 ?zqc3 ?zqc4 ?zqc5; (case zqkA => exact rfl); (case zqkF => exact rfl); (case zqkK => first | exact rfl | assumption); (case zqk1 => k_asm); (case zqk2 => k_asm); (case zqk3 => k_asm); (case zqk4 => k_asm); (case zqk5 => k_asm); (case zqk6 => k_is); (case zqk7 => k_is); (case zqk8 => walk_at "KD"); (case zqk9 => first | exact BindsTo.of_eq rfl | exact binds_K (by k_in) rfl (by k_is) rfl rfl rfl | fail "ENTER: no rule for these arguments"); (case zqc5 => decide); (case zqkB => exact locs rfl); (case zqc2 => exact rfl); (case zqc3 => exact rfl); (case zqc4 => exact rfl); k_whole; intro g' L' h' tk' FG' mm F' N' B' X' T' qk ek)
  k_with "call ref" => (k_here; k_dflt (first | (refine' call_cls0 ?zqk1 ?zqk2 ?zqk3 ?zqk4 ?zqk5 ?_; (case zqk1 => k_asm); (case zqk2 => k_asm); (case zqk3 => k_asm); (case zqk4 => k_is); (case zqk5 => k_is); k_whole; intro x' d' h' F' N' l1 l2; (try k_lt l1); (try k_lt2 l2); (try k_sweep)) | (refine' call_cls ?zqk1 ?zqk2 ?zqk3 ?zqk4 ?zqk5 ?zqk6 ?_; (case zqk1 => k_asm); (case zqk2 => k_asm); (case zqk3 => k_asm); (case zqk4 => k_is); (case zqk5 => k_is); (case zqk6 => k_is); k_whole; intro x' d' h' F' N' l1 l2; (try k_lt l1); (try k_lt2 l2); (try k_sweep); walk_at "ENTER") | (refine' call_meth ?zqk1 ?zqk2 ?_; (case zqk1 => k_asm); (case zqk2 => k_mem); k_whole; walk_at "ENTER") | (refine wpAny_call ?_; walk_at "ENTER")))
  k_with "call builtin:len" => (k_here; (with_reducible show wpAny _ _ (call (Value.builtin "len") [Value.ref _]) _ _ _); k_dflt (refine' kst_len ?zqk1 ?zqk2 ?zqk3 ?zqk4 ?_; (case zqk1 => k_asm); (case zqk2 => k_mem); (case zqk3 => first | assumption | exact rfl); (case zqk4 => omega); k_whole))
  k_with "WhileStep2" => (first | (with_reducible show WhileStep2 _ _ _ _ _ _ (Flow.ret _) _) | (with_reducible show WhileStep2 _ _ _ _ _ _ Flow.brk _)); (dsimp only [WhileStep2])
  k_with "execs cons" => (k_here; refine wpAny_execs_cons (foldQ ?_); intro qs)
  k_with "storeName" => (k_here; (try dsimp only); k_dflt (refine' store_ ?zqF ?zqN ?_ ?zqa ?zqb; (case zqF => k_asm); (case zqN => k_asm); (case zqa => first | exact rfl | assumption); (case zqb => rfl); k_whole; intro h' tk' mm F' N'; (try k_sweep)))
  k_with "exec While Compare cons nil" => refine Halt.go ?_
  k_with "pyIter ref" => refine Halt.go ?_
  k_with "call type:enumerate" => refine Halt.go ?_
  k_with "KswEnd" => refine Halt.at (k := "KswEnd") (by assumption) ?_
  k_with "subscriptTail" => refine Halt.at (k := "subscriptTail") (by assumption) ?_
  k_with "eval ListComp" => refine Halt.at (k := "eval ListComp") (by assumption) ?_
  k_with "CompSrc" => refine Halt.at (k := "CompSrc") (by assumption) ?_
  k_with "CompEnd" => refine Halt.at (k := "CompEnd") (by assumption) ?_
  k_with "call ref" => refine Halt.at (k := "call ref") (by assumption) ?_
  k_with "call builtin:sorted" => refine Halt.at (k := "call builtin:sorted") (by assumption) ?_
  k_with "call builtin:repr" => refine Halt.at (k := "call builtin:repr") (by assumption) ?_
  k_with "unpackItems ref" => refine Halt.at (k := "unpackItems ref") (by assumption) ?_
  k_with "compareOp Eq ref ref" => refine Halt.at (k := "compareOp Eq ref ref") (by assumption) ?_
  k_with "call type:str" => refine Halt.at (k := "call type:str") (by assumption) ?_
  k_with "K4" => ((case zqk1 => k_asm); (case zqk2 => k_asm); (case zqk3 => k_asm); (case zqk4 => k_asm))
  k_with "K56" => ((case zqk5 => first | assumption | (with_unfolding_all assumption)); (case zqk6 => first | assumption | (with_unfolding_all assumption)))
  k_with "KN" => (k_whole; intro h' tj' n' F' N' hT' hK'; (try dsimp only); (try k_sweep))
  k_with "getAttr ref" => (k_here; (with_reducible show wpAny _ _ (getAttr (Value.ref _) (PySem.Str.ofString "free") _) _ _ _); k_dflt (refine' get_free ?zqk1 ?zqk2 ?zqk3 ?zqk4 ?_; walk_at "K4"; k_whole; intro tk' tj'; (try dsimp only)))
  k_with "getAttr ref" => (k_here; (with_reducible show wpAny _ _ (getAttr (Value.ref _) (PySem.Str.ofString "size") _) _ _ _); k_dflt (refine' get_size ?zqk1 ?zqk2 ?zqk3 ?zqk4 ?_; walk_at "K4"; k_whole; intro tk' tj'; (try dsimp only)))
  k_with "getAttr ref" => (k_here; (with_reducible show wpAny _ _ (getAttr (Value.ref _) (PySem.Str.ofString "array") _) _ _ _); k_dflt (refine' get_array ?zqk1 ?zqk2 ?zqk3 ?zqk4 ?_; walk_at "K4"; k_whole; intro tj'; (try dsimp only)))
  k_with "getAttr ref" => (k_here; (with_reducible show wpAny _ _ (getAttr (Value.ref _) (PySem.Str.ofString "nodes") _) _ _ _); k_dflt (refine' get_nodes ?zqk1 ?zqk2 ?zqk3 ?zqk4 ?_; walk_at "K4"; k_whole; intro tj'; (try dsimp only)))
  k_with "getAttr ref" => (k_here; (with_reducible show wpAny _ _ (getAttr (Value.ref _) (PySem.Str.ofString "key") _) _ _ _); k_dflt (first | (refine' get_key_none ?zqk1 ?zqk2 ?zqk3 ?zqk4 ?zqk5 ?zqk6 ?zqk7 ?_; walk_at "K4"; walk_at "K56"; (case zqk7 => assumption); k_whole; intro tj'; (try dsimp only)) | (refine' get_key_some ?zqk1 ?zqk2 ?zqk3 ?zqk4 ?zqk5 ?zqk6 ?zqk7 ?_; walk_at "K4"; walk_at "K56"; (case zqk7 => assumption); k_whole; intro kv' tj' hkv'; (try dsimp only)) | (refine' get_key_any ?zqk1 ?zqk2 ?zqk3 ?zqk4 ?zqk5 ?zqk6 ?_; walk_at "K4"; walk_at "K56"; k_whole; intro kv' tj' hkv'; (try dsimp only))))
  k_with "getAttr ref" => (k_here; (with_reducible show wpAny _ _ (getAttr (Value.ref _) (PySem.Str.ofString "value") _) _ _ _); k_dflt (refine' get_value ?zqk1 ?zqk2 ?zqk3 ?zqk4 ?zqk5 ?zqk6 ?_; walk_at "K4"; walk_at "K56"; k_whole; intro tj'; (try dsimp only)))
  k_with "getAttr ref" => (k_here; (with_reducible show wpAny _ _ (getAttr (Value.ref _) (PySem.Str.ofString "next") _) _ _ _); k_dflt (refine' get_next ?zqk1 ?zqk2 ?zqk3 ?zqk4 ?zqk5 ?zqk6 ?_; walk_at "K4"; walk_at "K56"; k_whole; intro tk' tj'; (try dsimp only)))
  k_with "setAttr ref" => (k_here; (with_reducible show wpAny _ _ (setAttr (Value.ref _) (PySem.Str.ofString "free") _) _ _ _); k_dflt (refine' set_free ?zqk1 ?zqk2 ?zqk3 ?zqk4 ?_; walk_at "K4"; walk_at "KN"))
  k_with "setAttr ref" => (k_here; (with_reducible show wpAny _ _ (setAttr (Value.ref _) (PySem.Str.ofString "size") _) _ _ _); k_dflt (refine' set_size ?zqk1 ?zqk2 ?zqk3 ?zqk4 ?_; walk_at "K4"; walk_at "KN"))
  k_with "setAttr ref" => (k_here; (with_reducible show wpAny _ _ (setAttr (Value.ref _) (PySem.Str.ofString "flags") _) _ _ _); k_dflt (refine' set_flags ?zqk1 ?zqk2 ?zqk3 ?zqk4 ?_; walk_at "K4"; walk_at "KN"))
  k_with "setAttr ref" => (k_here; (with_reducible show wpAny _ _ (setAttr (Value.ref _) (PySem.Str.ofString "log_nodes") _) _ _ _); k_dflt (refine' set_log_nodes ?zqk1 ?zqk2 ?zqk3 ?zqk4 ?_; walk_at "K4"; walk_at "KN"))
  k_with "setAttr ref" => (k_here; (with_reducible show wpAny _ _ (setAttr (Value.ref _) (PySem.Str.ofString "key") _) _ _ _); k_dflt (refine' set_key ?zqk1 ?zqk2 ?zqk3 ?zqk4 ?zqk5 ?zqk6 ?zqk7 ?_; walk_at "K4"; walk_at "K56"; (case zqk7 => first | assumption | exact KV.none); walk_at "KN"))
  k_with "setAttr ref" => (k_here; (with_reducible show wpAny _ _ (setAttr (Value.ref _) (PySem.Str.ofString "value") _) _ _ _); k_dflt (refine' set_value ?zqk1 ?zqk2 ?zqk3 ?zqk4 ?zqk5 ?zqk6 ?zqk7 ?_; walk_at "K4"; walk_at "K56"; (case zqk7 => first | assumption | rfl); walk_at "KN"))
  k_with "setAttr ref" => (k_here; (with_reducible show wpAny _ _ (setAttr (Value.ref _) (PySem.Str.ofString "next") _) _ _ _); k_dflt (refine' set_next ?zqk1 ?zqk2 ?zqk3 ?zqk4 ?zqk5 ?zqk6 ?_; walk_at "K4"; walk_at "K56"; walk_at "KN"))
  k_with "getMethod ref" => (k_here; (with_reducible show wpAny _ _ (getMethod (Value.ref _) _ _) _ _ _); k_dflt (refine' tab_meth ?zqk1 ?zqk2 ?zqk3 ?zqk4 ?zqk5 ?zqk6 ?zqk7 ?zqk8 ?_; walk_at "K4"; (case zqk5 => k_is); (case zqk6 => k_is); (case zqk7 => k_is); (case zqk8 => decide +kernel); k_whole))
  k_with "call builtin:len" => (k_here; (with_reducible show wpAny _ _ (call (Value.builtin "len") [Value.ref _]) _ _ _); k_dflt (first | (refine' len_nodes ?zqk3 ?zqk4 ?_; (case zqk3 => k_asm); (case zqk4 => k_asm); k_whole; intro tk' tj'; (try dsimp only)) | (refine' len_arr ?zqk3 ?zqk4 ?_; (case zqk3 => k_asm); (case zqk4 => k_asm); k_whole; intro tk' tj'; (try dsimp only))))
  k_with "subscriptTail" => (k_here; (with_reducible show wpAny _ _ (subscriptTail _ _ (Value.ref _) (Value.int _ _)) _ _ _); k_dflt (first | (refine' item_node ?zqk3 ?zqk4 ?zqk5 ?zqk6 ?_ ?zqk7; (case zqk3 => k_asm); (case zqk4 => k_asm); (case zqk5 => assumption); (case zqk6 => first | assumption | omega); (case zqk7 => with_unfolding_all rfl); k_whole) | (refine' item_arr ?zqk3 ?zqk4 ?zqk5 ?zqk6 ?_ ?zqk7; (case zqk3 => k_asm); (case zqk4 => k_asm); (case zqk5 => assumption); (case zqk6 => first | assumption | omega); (case zqk7 => with_unfolding_all rfl); k_whole)))
  k_with "setItem ref int" => (k_here; (with_reducible show wpAny _ _ (setItem (Value.ref _) (Value.int _ _) _) _ _ _); k_dflt (refine' set_arr ?zqk1 ?zqk3 ?zqk4 ?zqk5 ?zqk6 ?_; (case zqk1 => k_asm); (case zqk3 => k_asm); (case zqk4 => k_asm); (case zqk5 => omega); (case zqk6 => (try dsimp only); omega); k_whole; intro h' n' F' N' hT' hK'; (try dsimp only); (try k_sweep)))
  k_with "call builtin:list.append" => (k_here; (with_reducible show wpAny _ _ (call (Value.builtin _) [Value.ref _, _]) _ _ _); k_dflt (refine' app_arr ?zqk1 ?zqk3 ?zqk4 ?zqk5 ?_; (case zqk1 => k_asm); (case zqk3 => k_asm); (case zqk4 => k_asm); (case zqk5 => (try dsimp only); omega); k_whole; intro h' n' F' N' hT' hK'; (try dsimp only); (try k_sweep)))
  k_with "compareOp Is" => (k_here; (with_reducible show wpAny _ _ (compareOp CmpOp.Is _ Value.none) _ _ _); k_dflt (refine' kv_isnone ?zqk1 ?_; (case zqk1 => assumption); k_whole))
  k_with "exec For Name Name cons nil" => (k_here; (rename Fr _ _ _ _ => lF'); (with_unfolding_all refine' For_invVF lF' ?zqk1 ?zqk2 ?_; (case zqk1 => exact rfl); (case zqk2 => exact rfl); k_whole))
  k_with "exec For Name Call cons nil" => (k_here; (rename Fr _ _ _ _ => lF'); (with_unfolding_all refine' For_invVF lF' ?zqk1 ?zqk2 ?_; (case zqk1 => exact rfl); (case zqk2 => exact rfl); k_whole))
  k_with "exec For Name Attribute cons nil" => (k_here; (rename Fr _ _ _ _ => lF'); (with_unfolding_all refine' For_invVF lF' ?zqk1 ?zqk2 ?_; (case zqk1 => exact rfl); (case zqk2 => exact rfl); k_whole))
  k_with "TP" => ((first | (with_reducible show Mine.TP _ _ _ _ _ _ (Flow.ret _) _) | (with_reducible show Mine.TP _ _ _ _ _ _ Flow.brk _) | (with_reducible show Mine.TP _ _ _ _ _ _ Flow.next _) | (with_reducible show Mine.TP _ _ _ _ _ _ Flow.cont _)); (dsimp only [Mine.TP]))
  k_with "compareOp Is" => (k_here; (with_reducible show wpAny _ _ (compareOp CmpOp.Is _ Value.none) _ _ _); k_dflt (first | (refine' is_eq ?zqk1 ?_; (case zqk1 => assumption); k_whole) | (refine' is_ne ?zqk1 ?_; (case zqk1 => assumption); k_whole)))
  k_with "compareOp IsNot" => (k_here; (with_reducible show wpAny _ _ (compareOp CmpOp.IsNot _ Value.none) _ _ _); k_dflt (first | (refine' isnot_eq ?zqk1 ?_; (case zqk1 => assumption); k_whole) | (refine' isnot_ne ?zqk1 ?_; (case zqk1 => assumption); k_whole)))
  exact trivial

/-- a call from a frame that has none outside (it may raise and catch inside) -/
noncomputable def Spec0 (w : World) (f : Addr) (args : List Value) (cost : Nat) (P : Led → Prop) (R : Led → Value → Led → Prop) : Prop :=
  ∀ (mean : ExcName → Option Value) (mg mb : Str → Option Value) (dp un : Nat) (cn : Str) (cs : Scope) (a : Addr) (ccd : Value) (A₀ : Around) (base h₀ : Heap) (L : Addr) (m : Str → Option Value) (news : Led) (s : Shared)
    (Q E : Value → Shared → Prop),
    Below A₀ base [] h₀ → Fr h₀ L s.heap m → (Mine.hd.heap_1 w.params).In h₀ → News h₀ L s.heap news → Top VW LO mean mg mb h₀ → (Mine.hd.heap_1 w.params).In base → Top VW LO mean mg mb base → cs.kind = .function → P news → dp + cost < recursionLimit → un + 8 * cost < cLine →
    (∀ r h' tk' news', Fr h₀ L h' m → News h₀ L h' news' → R news r news' → Q r { s with heap := h', toks := tk' }) →
    wpAny (model PySem.Challenge.rw_pq0681_01.row.prog w) (ktrTop dp un (some []) cn cs L a ccd [] []) (call (.ref f) args) Q E s
theorem wd_P37_64 : True := by
  k_with "subscriptTail" => (k_here; (with_reducible show wpAny _ _ (subscriptTail _ _ (Value.ref _) (Value.int _ _)) _ _ _); k_dflt (first | (refine' sub_slot ?zqk3 ?zqk4 ?zqk5 ?zqk6 ?_ ?zqk8; (case zqk3 => k_asm); (case zqk4 => k_asm); (case zqk5 => assumption); (case zqk6 => assumption); (case zqk8 => with_unfolding_all rfl); k_whole; intro tk'; (try dsimp only)) | (refine' sub_place ?zqk3 ?zqk4 ?zqk5 ?zqk6 ?_ ?zqk8; (case zqk3 => k_asm); (case zqk4 => k_asm); (case zqk5 => assumption); (case zqk6 => assumption); (case zqk8 => with_unfolding_all rfl); k_whole; intro tk'; (try dsimp only))))
  exact trivial
set_option maxRecDepth 100000 in
set_option maxHeartbeats 8000000 in
theorem lsizes_spec (w : World) (d f t : Addr) (xs : List Int) (k : Nat) (Y : Lay) (T TN : Tab) (es es' : List (PKey × Value)) (hk100 : k < 50) (hx : xs.length < 1000) (hwf : ∀ x ∈ T.nodes, x.val ≠ .none → x.key ≠ none) (hg : GoneFrom T 0 es) (hz : es.length < 60) (hsm : ∀ x ∈ es, SmallE x)
    (href : (slotOf (thr xs k 4) > 4194304 ∨ placeOf (thr xs (k + 1) 4) > 1048576) → TN = T)
    (hres : ¬ (slotOf (thr xs k 4) > 4194304 ∨ placeOf (thr xs (k + 1) 4) > 1048576) → resizeW (newKey 2) T (slotOf (thr xs k 4)) (placeOf (thr xs (k + 1) 4)) = some TN ∧ (∀ x ∈ TN.nodes, x.val ≠ .none → x.key ≠ none) ∧ GoneFrom TN 0 es' ∧ es'.Perm es) :
    Spec0 w 457 [.ref d, .ref t] 300 (fun nw => St nw d f t xs k Y T) (fun n0 r n1 => r = .bool true ∧ ∃ Y', St n1 d f t xs (k + 2) Y' TN) := by
  unfold Spec0
  k_fill
  intro mean mg mb dp un cn cs a ccd A₀ base h₀ L m news s Q E B F X N TP XB TB hk hP hd hu hret
  w_top on
  w_on
  repeat (rename HaltAt _ => hM9; clear hM9)
  have hM9 := haltAt "call ref"
  have hS := hP
  clear hP
  refine wpAny_call ?_
  refine' code_defS0 (cn := cn) (cs := cs) (a := a) (ccd := ccd) ?k1 ?k2 ?k3 ?k4 ?k5 ?kA ?k6 ?k7 ?k8 ?k9 ?kB ?_ ?cK ?c2 ?c3 ?c4 ?c5
  case kA => exact rfl
  case k2 => exact F
  case k1 => exact B
  case k3 => exact X
  case k4 => exact N
  case k5 => exact TP
  case k6 => k_is
  case k7 => k_is
  case k8 => walk_at "KD"
  case k9 => first | exact binds_K (by k_in) rfl (by k_is) rfl rfl rfl | exact BindsTo.of_eq rfl
  case kB => exact locs rfl
  case cK => exact hk
  case c2 => exact rfl
  case c3 => exact rfl
  case c4 => exact rfl
  case c5 => decide
  k_whole
  intro g' L' h' FG' F' N' B' X' T' D'
  (try dsimp only); (try k_lift B'); (try k_fold)
  k_steps
  constructor
  ((refine' Spec.useK (gone_spec w t Y T es hwf hg (by omega)) ?k1 ?k2 ?k3 ?k4 ?k5 ?kK ?kP ?kd ?ku ?C ?_; (case k1 => k_asm); (case k2 => k_asm); (case k3 => k_asm); (case k4 => k_asm); (case k5 => k_asm); (case kK => first | exact rfl | assumption); (case kP => exact hS.tab); (case kd => walk_at "KD"); (case ku => walk_at "KU"); (case C => (intro G c r' nA R'; obtain ⟨hT1, hs1, F1, e1, hP1, hF1⟩ := R'; subst e1; revert nA hT1 hs1 F1 hP1 hF1; exact c)); k_whole; intro nA hT1 hs1 F1 hP1 hF1 h' tk' F' N'); (try dsimp only); (try k_sweep))
  have hS1 := hS.mono hs1
  k_steps
  constructor
  obtain ⟨cd, td, hmd, _, _⟩ := id hS.dice
  have t3 : ∀ (l : Led) (a b c : Addr × Obj), ∀ p ∈ l, p ∈ a :: b :: c :: l := fun _ _ _ _ p hp => .tail _ (.tail _ (.tail _ hp))
  (rename ∀ p ∈ nA, p.1 < _ => lR)
  obtain ⟨RM, eR, lR⟩ : ∃ RM, RM = _ ∧ ∀ p ∈ nA, p.1 < RM := ⟨_, rfl, lR⟩
  subst eR
  (rename _ ∧ _ ∧ AllLt _ nA => lL)
  obtain ⟨LI, eL, lL⟩ : ∃ LI, LI = _ ∧ AllLt LI nA := ⟨_, rfl, lL.2.2⟩
  subst eL
  (rename News _ _ _ _ => lN0)
  have lN1 := Halt.mk lN0
  have hb1 := thr_lt xs k (many := 4) (by decide)
  obtain ⟨hb1a, hb1b⟩ := hb1
  ((refine' Spec.useK (thrown_spec w d f xs k 4 _ (by decide) (by decide) (by omega) hx) ?k1 ?k2 ?k3 ?k4 ?k5 ?kK ?kP ?kd ?ku ?C ?_; (case k1 => k_asm); (case k2 => k_asm); (case k3 => k_asm); (case k4 => k_asm); (case k5 => k_asm); (case kK => first | exact rfl | assumption); (case kP => exact hS1.dice.mono (t3 nA _ _ _)); (case kd => walk_at "KD"); (case ku => walk_at "KU"); (case C => (intro G c r' nB R'; obtain ⟨⟨tv, e1⟩, hD2, hK2⟩ := R'; subst e1; revert nB tv hD2 hK2; exact c)); k_whole; intro nB tv hD2 hK2 h' tk' F' N'); (try dsimp only); (try k_sweep))
  have hdn := hs1 _ hmd
  have hSa := St.nl lN1.go (hS1.mono (t3 nA _ _ _))
  have hS2 := St.thrown lN1.go (hS1.mono (t3 nA _ _ _)) hD2 hK2 hSa
  have hP2 := PairsIn.but lN1.go (.tail _ (.tail _ (.tail _ hdn))) (hP1.mono (t3 nA _ _ _)) hK2 (Nat.ne_of_gt (hF1 _ hmd))
  have hR2 := hK2 _ (.tail _ (.tail _ (.head _))) (Nat.ne_of_gt (lR _ hdn))
  have hL2 := hK2 _ (.head _) (Nat.ne_of_gt (tb_ltOf lL.2.2 _ hdn))
  have hC2 : ListAt LI [4194304 + 1, 15 * 2 ^ Int.toNat 30, 2, 0] _ := ⟨_, _, .cons _ _ (.cons _ _ (.cons _ _ (.cons _ _ .nil))), hL2⟩
  k_steps
  constructor
  have t1 : ∀ (l : Led) (a : Addr × Obj), ∀ p ∈ l, p ∈ a :: l := fun _ _ p hp => .tail _ hp
  (rename ∀ p ∈ nB, p.1 < _ => lJ)
  obtain ⟨LJ, eJ, lJ⟩ : ∃ LJ, LJ = _ ∧ ∀ p ∈ nB, p.1 < LJ := ⟨_, rfl, lJ⟩
  subst eJ
  (rename News _ _ _ _ => lN0)
  have lN2 := Halt.mk lN0
  obtain ⟨hb2a, hb2b⟩ := thr_lt xs (k + 1) (many := 4) (by decide)
  obtain ⟨cd2, td2, hmd2, _, _⟩ := id hD2
  ((refine' Spec.useK (thrown_spec w d f xs (k + 1) 4 _ (by decide) (by decide) (by omega) hx) ?k1 ?k2 ?k3 ?k4 ?k5 ?kK ?kP ?kd ?ku ?C ?_; (case k1 => k_asm); (case k2 => k_asm); (case k3 => k_asm); (case k4 => k_asm); (case k5 => k_asm); (case kK => first | exact rfl | assumption); (case kP => exact hD2.mono (t1 nB _)); (case kd => walk_at "KD"); (case ku => walk_at "KU"); (case C => (intro G c r' nC R'; obtain ⟨⟨tv2, e1⟩, hD3, hK3⟩ := R'; subst e1; revert nC tv2 hD3 hK3; exact c)); k_whole; intro nC tv2 hD3 hK3 h' tk' F' N'); (try dsimp only); (try k_sweep))
  have hS3 := St.thrown lN2.go (hS2.mono (t1 nB _)) hD3 hK3 hSa
  have hP3 := PairsIn.but lN2.go (.tail _ hmd2) (hP2.mono (t1 nB _)) hK3 (Nat.ne_of_gt (hF1 _ hmd))
  have hR3 := hK3 _ (.tail _ hR2) (Nat.ne_of_gt (lR _ hdn))
  have hL3 := hK3 _ (.head _) (Nat.ne_of_gt (lJ _ hmd2))
  have hC3 : ListAt LJ [0, 4, 1048576 + 1, 15 * 2 ^ Int.toNat 30] _ := ⟨_, _, .cons _ _ (.cons _ _ (.cons _ _ (.cons _ _ .nil))), hL3⟩
  by_cases h1 : slotOf (thr xs k 4) > 4194304
  · have hbig : slotOf (thr xs k 4) > 4194304 ∨ placeOf (thr xs (k + 1) 4) > 1048576 := .inl h1
    k_steps
    constructor
    refine' SpecT.use (refused_spec w t Y T _ _ _ _ hbig) ?k1 ?k2 ?k3 ?k4 ?k5 ?XB ?TB ?D ?T0 ?kK ?kP ?kd ?ku ?_
    case k1 => k_asm
    case k2 => k_asm
    case k3 => k_asm
    case k4 => k_asm
    case k5 => k_asm
    case XB => assumption
    case TB => assumption
    case D => assumption
    case T0 => exact KtsTurn.refl
    case kK => exact rfl
    case kP => exact hS3.tab
    case kd => walk_at "KD"
    case ku => walk_at "KU"
    k_whole
    intro r2 g2 h2 tk2 nD T2 F2 N2 B2 X2 P2 D2 R2
    obtain ⟨e3, hT4, hO4⟩ := R2
    subst e3
    dsimp only
    (try k_lift B2)
    (try k_sweep)
    have hS4 := hS3.mono hO4
    have hP4 := hP3.mono hO4
    have hR4 := hO4 _ hR3
    k_steps
    (rename News _ _ _ _ => lN3)
    refine eq_room lN3 (.head _) (.tail _ hR4) (by walk_at "KU") ?_
    k_steps
    constructor
    ((refine' Spec.useK (gone_spec w t Y T es hwf hg (by omega)) ?k1 ?k2 ?k3 ?k4 ?k5 ?kK ?kP ?kd ?ku ?C ?_; (case k1 => k_asm); (case k2 => k_asm); (case k3 => k_asm); (case k4 => k_asm); (case k5 => k_asm); (case kK => first | exact rfl | assumption); (case kP => exact hT4.mono (t1 nD _)); (case kd => walk_at "KD"); (case ku => walk_at "KU"); (case C => (intro G c r' n' R'; obtain ⟨hT5, hs5, F5, e5, hP5, hF5⟩ := R'; subst e5; revert n' hT5 hs5 F5 hP5 hF5; exact c)); k_whole; intro n' hT5 hs5 F5 hP5 hF5 h' tk' F' N'); (try dsimp only); (try k_sweep))
    k_steps
    (rename News _ _ _ _ => lN4)
    refine eq_pairs lN4 hP5 ((hP4.mono (t1 nD _)).mono hs5) (by walk_at "KU") ?_
    k_steps
    obtain rfl := href hbig
    exact hret _ _ _ _ (by k_asm) (by k_asm) ⟨rfl, Y, (hS4.mono (t1 nD _)).mono hs5⟩
  · by_cases h2 : placeOf (thr xs (k + 1) 4) > 1048576
    · have hbig : slotOf (thr xs k 4) > 4194304 ∨ placeOf (thr xs (k + 1) 4) > 1048576 := .inr h2
      k_steps
      constructor
      refine' SpecT.use (refused_spec w t Y T _ _ _ _ hbig) ?k1 ?k2 ?k3 ?k4 ?k5 ?XB ?TB ?D ?T0 ?kK ?kP ?kd ?ku ?_
      case k1 => k_asm
      case k2 => k_asm
      case k3 => k_asm
      case k4 => k_asm
      case k5 => k_asm
      case XB => assumption
      case TB => assumption
      case D => assumption
      case T0 => exact KtsTurn.refl
      case kK => exact rfl
      case kP => exact hS3.tab
      case kd => walk_at "KD"
      case ku => walk_at "KU"
      k_whole
      intro r2 g2 h2 tk2 nD T2 F2 N2 B2 X2 P2 D2 R2
      obtain ⟨e3, hT4, hO4⟩ := R2
      subst e3
      dsimp only
      (try k_lift B2)
      (try k_sweep)
      have hS4 := hS3.mono hO4
      have hP4 := hP3.mono hO4
      have hR4 := hO4 _ hR3
      k_steps
      (rename News _ _ _ _ => lN3)
      refine eq_room lN3 (.head _) (.tail _ hR4) (by walk_at "KU") ?_
      k_steps
      constructor
      ((refine' Spec.useK (gone_spec w t Y T es hwf hg (by omega)) ?k1 ?k2 ?k3 ?k4 ?k5 ?kK ?kP ?kd ?ku ?C ?_; (case k1 => k_asm); (case k2 => k_asm); (case k3 => k_asm); (case k4 => k_asm); (case k5 => k_asm); (case kK => first | exact rfl | assumption); (case kP => exact hT4.mono (t1 nD _)); (case kd => walk_at "KD"); (case ku => walk_at "KU"); (case C => (intro G c r' n' R'; obtain ⟨hT5, hs5, F5, e5, hP5, hF5⟩ := R'; subst e5; revert n' hT5 hs5 F5 hP5 hF5; exact c)); k_whole; intro n' hT5 hs5 F5 hP5 hF5 h' tk' F' N'); (try dsimp only); (try k_sweep))
      k_steps
      (rename News _ _ _ _ => lN4)
      refine eq_pairs lN4 hP5 ((hP4.mono (t1 nD _)).mono hs5) (by walk_at "KU") ?_
      k_steps
      obtain rfl := href hbig
      exact hret _ _ _ _ (by k_asm) (by k_asm) ⟨rfl, Y, (hS4.mono (t1 nD _)).mono hs5⟩
    · obtain ⟨hr1, hwf', hg', hpm⟩ := hres (by omega)
      have hT3 := hS3.tab
      have hM9 := haltAt "eval ListComp"
      have hM9 := haltAt "CompSrc"
      have hM9 := haltAt "CompEnd"
      have hM9 := haltAt "call builtin:repr"
      have hM9 := haltAt "call builtin:sorted"
      k_steps
      constructor
      (rename News _ _ _ _ => lN0)
      have lN5 := Halt.mk lN0
      ((refine' Spec.useK (resize_spec3 w (newKey 2) 120 (nk_spec w 2) t Y T _ _ _ _ TN hr1) ?k1 ?k2 ?k3 ?k4 ?k5 ?kK ?kP ?kd ?ku ?C ?_; (case k1 => k_asm); (case k2 => k_asm); (case k3 => k_asm); (case k4 => k_asm); (case k5 => k_asm); (case kK => first | exact rfl | assumption); (case kP => exact hS3.tab); (case kd => walk_at "KD"); (case ku => walk_at "KU"); (case C => (intro G c r' nE R'; obtain ⟨e6, Y6, hT6, hS6⟩ := R'; subst e6; revert nE Y6 hT6 hS6; exact c)); k_whole; intro nE Y6 hT6 hS6 h' tk' F' N'); (try dsimp only); (try k_sweep))
      have hS7 := hS3.resized hT6 hS6
      have hP7 := PairsIn.step lN5.go hS3.tab hP3 hS6 (touch_old hS.tab hF1)
      k_steps
      constructor
      refine LCg.ListComp_U (F₀ := by k_asm) (by rfl) (by decide) (by rfl) (by decide) (by rfl) ?_
      k_steps
      constructor
      ((refine' Spec.useK (gone_spec w t Y6 TN es' hwf' hg' (by rw [hpm.length_eq]; omega)) ?k1 ?k2 ?k3 ?k4 ?k5 ?kK ?kP ?kd ?ku ?C ?_; (case k1 => k_asm); (case k2 => k_asm); (case k3 => k_asm); (case k4 => k_asm); (case k5 => k_asm); (case kK => first | exact rfl | assumption); (case kP => exact hT6); (case kd => walk_at "KD"); (case ku => walk_at "KU"); (case C => (intro G c r' nG R'; obtain ⟨hT8, hs8, F8, e8, hP8, hF8⟩ := R'; subst e8; revert nG hT8 hs8 F8 hP8 hF8; exact c)); k_whole; intro nG hT8 hs8 F8 hP8 hF8 h' tk' F' N'); (try dsimp only); (try k_sweep))
      have hP9 := hP7.mono hs8
      k_steps
      constructor
      obtain ⟨ps8, c8, hm8, hps8⟩ := hP8
      (rename Fr _ _ _ _ => lF)
      (rename News _ _ _ _ => lN)
      have hl8 := hps8.len
      have hl9 := hpm.length_eq
      refine LCg.CompSrc.ledger rfl lF lN hm8 (by rw [List.size_toArray, List.length_map, sizeLine_eq]; omega) fun g => reprs_rest hps8 ?turn ?fin
      case turn =>
        clear lF lN
        intro ke ve kve pe I oI C oC D m₂ ys h tk E' hin hkv hpe hC hx F N off ne
        obtain ⟨ie, te, e9, _⟩ := id (hsm _ (hpm.mem_iff.mp hin)).val
        obtain rfl : ve = .int ie te := e9
        have hsE := hsm _ (hpm.mem_iff.mp hin)
        k_steps
        constructor
        (rename Fr _ _ _ _ => lF); (rename News _ _ _ _ => lN)
        refine repr_pair lF lN (.tail _ (.tail _ (.tail _ hpe))) hkv hsE rfl (by walk_at "KU") ?_
        intro h2' u2 tk2 F2 N2
        k_steps
        constructor
        exact LCg.CompEnd.intro F2 N2 nG (fun p hp => hp) off (.inr ⟨_, hm8, rfl, _, rfl⟩) ⟨rfl, _, rfl⟩
      case fin =>
        clear lF lN
        intro vs8 hvs8 D h tk F N o1
        have hvl8 := hvs8.length
        rw [List.length_map] at hvl8
        k_steps
        constructor
        (rename Fr _ _ _ _ => lF); (rename News _ _ _ _ => lN)
        refine sorted_N_str lF lN (vs := vs8) ⟨_, (lN _ (.head _)).1, rfl, _, rfl⟩ hvs8 (by omega) ?_
        intro h3 ws ss ce F3 N3 b1 b2 b3
        obtain ⟨ps9, c9, hm9, hps9⟩ := hP9
        k_steps
        constructor
        refine LCg.ListComp_U (F₀ := by k_asm) (by rfl) (by decide) (by rfl) (by decide) (by rfl) ?_
        k_steps
        constructor
        (rename Fr _ _ _ _ => lF); (rename News _ _ _ _ => lN)
        have hl10 := hps9.len
        refine LCg.CompSrc.ledger rfl lF lN (.tail _ (.tail _ hm9)) (by rw [List.size_toArray, List.length_map, sizeLine_eq]; omega) fun g => reprs_rest (hps9.mono fun _ _ q => .tail _ (.tail _ q)) ?turn2 ?fin2
        case turn2 =>
          clear lF lN
          intro ke ve kve pe I oI C oC D m₂ ys h tk E' hin hkv hpe hC hx F N off ne
          obtain ⟨ie, te, e9, _⟩ := id (hsm _ hin).val
          obtain rfl : ve = .int ie te := e9
          have hsE := hsm _ hin
          k_steps
          constructor
          (rename Fr _ _ _ _ => lF); (rename News _ _ _ _ => lN)
          refine repr_pair lF lN (.tail _ (.tail _ (.tail _ hpe))) hkv hsE rfl (by walk_at "KU") ?_
          intro h2' u2 tk2 F2 N2
          k_steps
          constructor
          exact LCg.CompEnd.intro F2 N2 _ (fun p hp => hp) off (.inr ⟨_, .tail _ (.tail _ hm9), rfl, _, rfl⟩) ⟨rfl, _, rfl⟩
        case fin2 =>
          clear lF lN
          intro vs9 hvs9 D2' h4 tk4 F4 N4 o2
          have hvl9 := hvs9.length
          rw [List.length_map] at hvl9
          k_steps
          constructor
          (rename Fr _ _ _ _ => lF); (rename News _ _ _ _ => lN)
          refine sorted_N_str lF lN (vs := vs9) ⟨_, (lN _ (.head _)).1, rfl, _, rfl⟩ hvs9 (by omega) ?_
          intro h5 ws2 ss2 ce2 F5 N5 d1 d2 d3
          obtain rfl : ss = ss2 := sorted_unique (b2.trans ((hpm.map eText).trans d2.symm)) b3 d3
          have hM9 := haltAt "compareOp Eq ref ref"
          k_steps
          constructor
          (rename News _ _ _ _ => lN6)
          refine eq_strs lN6 (.tail _ (.tail _ (.head _))) (.head _) b1 d1 (by walk_at "KU") ?_
          k_steps
          exact hret _ _ _ _ (by k_asm) (by k_asm) ⟨rfl, Y6, (hS7.mono hs8).mono (fun p hp => .tail _ (.tail _ (.tail _ (.tail _ hp))))⟩

end
section
open PySem.SeqAt PySem.Builtin
theorem wd_P38_0 : True := by
  k_with_none
  exact trivial
theorem wd_P38_65 : True := by
  k_with "KD" => first | exact dlt (by assumption) (by first | decide | omega) | exact dlt1 (by assumption) (by first | decide | omega) | exact dlt0 (by assumption) | ktr_room
  k_with "KU" => first | exact ult (by assumption) (by first | decide | omega) | ktr_units
  k_with "ENTER" => (refine' enter_ ?zqk1 ?zqk2 ?zqk3 ?zqk4 ?zqk5 ?zqkA ?zqkF ?zqkK ?zqk6 ?zqk7 ?zqk8 ?zqk9 ?zqkB ?_ ?zqc2 ?zqc3 ?zqc4 ?zqc5; (case zqkA => exact rfl); (case zqkF => exact rfl); (case zqkK => first | exact rfl | assumption); (case zqk1 => k_asm); (case zqk2 => k_asm); (case zqk3 => k_asm); (case zqk4 => k_asm); (case zqk5 => k_asm); (case zqk6 => k_is); (case zqk7 => k_is); (case zqk8 => walk_at "KD"); (case zqk9 => first | exact BindsTo.of_eq rfl | exact binds_K (by k_in) rfl (by k_is) rfl rfl rfl | fail "ENTER: no rule for these arguments"); (case zqc5 => decide); (case zqkB => exact locs rfl); (case zqc2 => exact rfl); (case zqc3 => exact rfl); (case zqc4 => exact rfl); k_whole; intro g' L' h' tk' FG' mm F' N' B' X' T' qk ek)
  k_with "call ref" => (k_here; k_dflt (first | (refine' call_cls0 ?zqk1 ?zqk2 ?zqk3 ?zqk4 ?zqk5 ?_; (case zqk1 => k_asm); (case zqk2 => k_asm); (case zqk3 => k_asm); (case zqk4 => k_is); (case zqk5 => k_is); k_whole; intro x' d' h' F' N' l1 l2; (try k_lt l1); (try k_lt2 l2); (try k_sweep)) | (refine' call_cls ?zqk1 ?zqk2 ?zqk3 ?zqk4 ?zqk5 ?zqk6 ?_; (case zqk1 => k_asm); (case zqk2 => k_asm); (case zqk3 => k_asm); (case zqk4 => k_is); (case zqk5 => k_is); (case zqk6 => k_is); k_whole; intro x' d' h' F' N' l1 l2; (try k_lt l1); (try k_lt2 l2); (try k_sweep); walk_at "ENTER") | (refine' call_meth ?zqk1 ?zqk2 ?_; (case zqk1 => k_asm); (case zqk2 => k_mem); k_whole; walk_at "ENTER") | (refine wpAny_call ?_; walk_at "ENTER")))
  k_with "call builtin:len" => (k_here; (with_reducible show wpAny _ _ (call (Value.builtin "len") [Value.ref _]) _ _ _); k_dflt (refine' kst_len ?zqk1 ?zqk2 ?zqk3 ?zqk4 ?_; (case zqk1 => k_asm); (case zqk2 => k_mem); (case zqk3 => first | assumption | exact rfl); (case zqk4 => omega); k_whole))
  k_with "WhileStep2" => (first | (with_reducible show WhileStep2 _ _ _ _ _ _ (Flow.ret _) _) | (with_reducible show WhileStep2 _ _ _ _ _ _ Flow.brk _)); (dsimp only [WhileStep2])
  k_with "execs cons" => (k_here; refine wpAny_execs_cons (foldQ ?_); intro qs)
  k_with "storeName" => (k_here; (try dsimp only); k_dflt (refine' store_ ?zqF ?zqN ?_ ?zqa ?zqb; (case zqF => k_asm); (case zqN => k_asm); (case zqa => first | exact rfl | assumption); (case zqb => rfl); k_whole; intro h' tk' mm F' N'; (try k_sweep)))
  k_with "exec While Compare cons nil" => refine Halt.go ?_
  k_with "pyIter ref" => refine Halt.go ?_
  k_with "call type:enumerate" => refine Halt.go ?_
  k_with "KswEnd" => refine Halt.at (k := "KswEnd") (by assumption) ?_
  k_with "subscriptTail" => refine Halt.at (k := "subscriptTail") (by assumption) ?_
  k_with "eval ListComp" => refine Halt.at (k := "eval ListComp") (by assumption) ?_
  k_with "CompSrc" => refine Halt.at (k := "CompSrc") (by assumption) ?_
  k_with "CompEnd" => refine Halt.at (k := "CompEnd") (by assumption) ?_
  k_with "call ref" => refine Halt.at (k := "call ref") (by assumption) ?_
  k_with "call builtin:sorted" => refine Halt.at (k := "call builtin:sorted") (by assumption) ?_
  k_with "call builtin:repr" => refine Halt.at (k := "call builtin:repr") (by assumption) ?_
  k_with "unpackItems ref" => refine Halt.at (k := "unpackItems ref") (by assumption) ?_
  k_with "compareOp Eq ref ref" => refine Halt.at (k := "compareOp Eq ref ref") (by assumption) ?_
  k_with "call type:str" => refine Halt.at (k := "call type:str") (by assumption) ?_
  k_with "K4" => ((case zqk1 => k_asm); (case zqk2 => k_asm); (case zqk3 => k_asm); (case zqk4 => k_asm))
  k_with "K56" => ((case zqk5 => first | assumption | (with_unfolding_all assumption)); (case zqk6 => first | assumption | (with_unfolding_all assumption)))
  k_with "KN" => (k_whole; intro h' tj' n' F' N' hT' hK'; (try dsimp only); (try k_sweep))
  k_with "getAttr ref" => (k_here; (with_reducible show wpAny _ _ (getAttr (Value.ref _) (PySem.Str.ofString "free") _) _ _ _); k_dflt (refine' get_free ?zqk1 ?zqk2 ?zqk3 ?zqk4 ?_; walk_at "K4"; k_whole; intro tk' tj'; (try dsimp only)))
  k_with "getAttr ref" => (k_here; (with_reducible show wpAny _ _ (getAttr (Value.ref _) (PySem.Str.ofString "size") _) _ _ _); k_dflt (refine' get_size ?zqk1 ?zqk2 ?zqk3 ?zqk4 ?_; walk_at "K4"; k_whole; intro tk' tj'; (try dsimp only)))
  k_with "getAttr ref" => (k_here; (with_reducible show wpAny _ _ (getAttr (Value.ref _) (PySem.Str.ofString "array") _) _ _ _); k_dflt (refine' get_array ?zqk1 ?zqk2 ?zqk3 ?zqk4 ?_; walk_at "K4"; k_whole; intro tj'; (try dsimp only)))
  k_with "getAttr ref" => (k_here; (with_reducible show wpAny _ _ (getAttr (Value.ref _) (PySem.Str.ofString "nodes") _) _ _ _); k_dflt (refine' get_nodes ?zqk1 ?zqk2 ?zqk3 ?zqk4 ?_; walk_at "K4"; k_whole; intro tj'; (try dsimp only)))
  k_with "getAttr ref" => (k_here; (with_reducible show wpAny _ _ (getAttr (Value.ref _) (PySem.Str.ofString "key") _) _ _ _); k_dflt (first | (refine' get_key_none ?zqk1 ?zqk2 ?zqk3 ?zqk4 ?zqk5 ?zqk6 ?zqk7 ?_; walk_at "K4"; walk_at "K56"; (case zqk7 => assumption); k_whole; intro tj'; (try dsimp only)) | (refine' get_key_some ?zqk1 ?zqk2 ?zqk3 ?zqk4 ?zqk5 ?zqk6 ?zqk7 ?_; walk_at "K4"; walk_at "K56"; (case zqk7 => assumption); k_whole; intro kv' tj' hkv'; (try dsimp only)) | (refine' get_key_any ?zqk1 ?zqk2 ?zqk3 ?zqk4 ?zqk5 ?zqk6 ?_; walk_at "K4"; walk_at "K56"; k_whole; intro kv' tj' hkv'; (try dsimp only))))
  k_with "getAttr ref" => (k_here; (with_reducible show wpAny _ _ (getAttr (Value.ref _) (PySem.Str.ofString "value") _) _ _ _); k_dflt (refine' get_value ?zqk1 ?zqk2 ?zqk3 ?zqk4 ?zqk5 ?zqk6 ?_; walk_at "K4"; walk_at "K56"; k_whole; intro tj'; (try dsimp only)))
  k_with "getAttr ref" => (k_here; (with_reducible show wpAny _ _ (getAttr (Value.ref _) (PySem.Str.ofString "next") _) _ _ _); k_dflt (refine' get_next ?zqk1 ?zqk2 ?zqk3 ?zqk4 ?zqk5 ?zqk6 ?_; walk_at "K4"; walk_at "K56"; k_whole; intro tk' tj'; (try dsimp only)))
  k_with "setAttr ref" => (k_here; (with_reducible show wpAny _ _ (setAttr (Value.ref _) (PySem.Str.ofString "free") _) _ _ _); k_dflt (refine' set_free ?zqk1 ?zqk2 ?zqk3 ?zqk4 ?_; walk_at "K4"; walk_at "KN"))
  k_with "setAttr ref" => (k_here; (with_reducible show wpAny _ _ (setAttr (Value.ref _) (PySem.Str.ofString "size") _) _ _ _); k_dflt (refine' set_size ?zqk1 ?zqk2 ?zqk3 ?zqk4 ?_; walk_at "K4"; walk_at "KN"))
  k_with "setAttr ref" => (k_here; (with_reducible show wpAny _ _ (setAttr (Value.ref _) (PySem.Str.ofString "flags") _) _ _ _); k_dflt (refine' set_flags ?zqk1 ?zqk2 ?zqk3 ?zqk4 ?_; walk_at "K4"; walk_at "KN"))
  k_with "setAttr ref" => (k_here; (with_reducible show wpAny _ _ (setAttr (Value.ref _) (PySem.Str.ofString "log_nodes") _) _ _ _); k_dflt (refine' set_log_nodes ?zqk1 ?zqk2 ?zqk3 ?zqk4 ?_; walk_at "K4"; walk_at "KN"))
  k_with "setAttr ref" => (k_here; (with_reducible show wpAny _ _ (setAttr (Value.ref _) (PySem.Str.ofString "key") _) _ _ _); k_dflt (refine' set_key ?zqk1 ?zqk2 ?zqk3 ?zqk4 ?zqk5 ?zqk6 ?zqk7 ?_; walk_at "K4"; walk_at "K56"; (case zqk7 => first | assumption | exact KV.none); walk_at "KN"))
  k_with "setAttr ref" => (k_here; (with_reducible show wpAny _ _ (setAttr (Value.ref _) (PySem.Str.ofString "value") _) _ _ _); k_dflt (refine' set_value ?zqk1 ?zqk2 ?zqk3 ?zqk4 ?zqk5 ?zqk6 ?zqk7 ?_; walk_at "K4"; walk_at "K56"; (case zqk7 => first | assumption | rfl); walk_at "KN"))
  k_with "setAttr ref" => (k_here; (with_reducible show wpAny _ _ (setAttr (Value.ref _) (PySem.Str.ofString "next") _) _ _ _); k_dflt (refine' set_next ?zqk1 ?zqk2 ?zqk3 ?zqk4 ?zqk5 ?zqk6 ?_; walk_at "K4"; walk_at "K56"; walk_at "KN"))
  k_with "getMethod ref" => (k_here; (with_reducible show wpAny _ _ (getMethod (Value.ref _) _ _) _ _ _); k_dflt (refine' tab_meth ?zqk1 ?zqk2 ?zqk3 ?zqk4 ?zqk5 ?zqk6 ?zqk7 ?zqk8 ?_; walk_at "K4"; (case zqk5 => k_is); (case zqk6 => k_is); (case zqk7 => k_is); (case zqk8 => decide +kernel); k_whole))
  k_with "call builtin:len" => (k_here; (with_reducible show wpAny _ _ (call (Value.builtin "len") [Value.ref _]) _ _ _); k_dflt (first | (refine' len_nodes ?zqk3 ?zqk4 ?_; (case zqk3 => k_asm); (case zqk4 => k_asm); k_whole; intro tk' tj'; (try dsimp only)) | (refine' len_arr ?zqk3 ?zqk4 ?_; (case zqk3 => k_asm); (case zqk4 => k_asm); k_whole; intro tk' tj'; (try dsimp only))))
  k_with "subscriptTail" => (k_here; (with_reducible show wpAny _ _ (subscriptTail _ _ (Value.ref _) (Value.int _ _)) _ _ _); k_dflt (first | (refine' item_node ?zqk3 ?zqk4 ?zqk5 ?zqk6 ?_ ?zqk7; (case zqk3 => k_asm); (case zqk4 => k_asm); (case zqk5 => assumption); (case zqk6 => first | assumption | omega); (case zqk7 => with_unfolding_all rfl); k_whole) | (refine' item_arr ?zqk3 ?zqk4 ?zqk5 ?zqk6 ?_ ?zqk7; (case zqk3 => k_asm); (case zqk4 => k_asm); (case zqk5 => assumption); (case zqk6 => first | assumption | omega); (case zqk7 => with_unfolding_all rfl); k_whole)))
  k_with "setItem ref int" => (k_here; (with_reducible show wpAny _ _ (setItem (Value.ref _) (Value.int _ _) _) _ _ _); k_dflt (refine' set_arr ?zqk1 ?zqk3 ?zqk4 ?zqk5 ?zqk6 ?_; (case zqk1 => k_asm); (case zqk3 => k_asm); (case zqk4 => k_asm); (case zqk5 => omega); (case zqk6 => (try dsimp only); omega); k_whole; intro h' n' F' N' hT' hK'; (try dsimp only); (try k_sweep)))
  k_with "call builtin:list.append" => (k_here; (with_reducible show wpAny _ _ (call (Value.builtin _) [Value.ref _, _]) _ _ _); k_dflt (refine' app_arr ?zqk1 ?zqk3 ?zqk4 ?zqk5 ?_; (case zqk1 => k_asm); (case zqk3 => k_asm); (case zqk4 => k_asm); (case zqk5 => (try dsimp only); omega); k_whole; intro h' n' F' N' hT' hK'; (try dsimp only); (try k_sweep)))
  k_with "compareOp Is" => (k_here; (with_reducible show wpAny _ _ (compareOp CmpOp.Is _ Value.none) _ _ _); k_dflt (refine' kv_isnone ?zqk1 ?_; (case zqk1 => assumption); k_whole))
  k_with "exec For Name Name cons nil" => (k_here; (rename Fr _ _ _ _ => lF'); (with_unfolding_all refine' For_invVF lF' ?zqk1 ?zqk2 ?_; (case zqk1 => exact rfl); (case zqk2 => exact rfl); k_whole))
  k_with "exec For Name Call cons nil" => (k_here; (rename Fr _ _ _ _ => lF'); (with_unfolding_all refine' For_invVF lF' ?zqk1 ?zqk2 ?_; (case zqk1 => exact rfl); (case zqk2 => exact rfl); k_whole))
  k_with "exec For Name Attribute cons nil" => (k_here; (rename Fr _ _ _ _ => lF'); (with_unfolding_all refine' For_invVF lF' ?zqk1 ?zqk2 ?_; (case zqk1 => exact rfl); (case zqk2 => exact rfl); k_whole))
  k_with "TP" => ((first | (with_reducible show Mine.TP _ _ _ _ _ _ (Flow.ret _) _) | (with_reducible show Mine.TP _ _ _ _ _ _ Flow.brk _) | (with_reducible show Mine.TP _ _ _ _ _ _ Flow.next _) | (with_reducible show Mine.TP _ _ _ _ _ _ Flow.cont _)); (dsimp only [Mine.TP]))
  k_with "compareOp Is" => (k_here; (with_reducible show wpAny _ _ (compareOp CmpOp.Is _ Value.none) _ _ _); k_dflt (first | (refine' is_eq ?zqk1 ?_; (case zqk1 => assumption); k_whole) | (refine' is_ne ?zqk1 ?_; (case zqk1 => assumption); k_whole)))
  k_with "compareOp IsNot" => (k_here; (with_reducible show wpAny _ _ (compareOp CmpOp.IsNot _ Value.none) _ _ _); k_dflt (first | (refine' isnot_eq ?zqk1 ?_; (case zqk1 => assumption); k_whole) | (refine' isnot_ne ?zqk1 ?_; (case zqk1 => assumption); k_whole)))
  exact trivial

theorem St.new {nw nw' : Led} {d f t : Addr} {xs : List Int} {k : Nat} {Y : Lay} {T : Tab} (hD : DiceAt nw d f xs k) (hT : TabIn nw' t Y T) (hs : ∀ p ∈ nw, p ∈ nw') (hn : ∀ a ∈ t :: touch Y, ∀ q ∈ nw, q.1 < a) : St nw' d f t xs k Y T := by
  obtain ⟨c, tk, hm, ⟨vs, c2, hi, hf⟩, hne⟩ := id hD
  exact ⟨hD.mono hs, hT, fun h => Nat.lt_irrefl _ (hn d (.tail _ h) _ hm), fun h => Nat.lt_irrefl _ (hn f (.tail _ h) _ hf)⟩
inductive Oth (t2 : Addr) : Value → Prop
  | none : Oth t2 .none
  | bytes (a : Array UInt8) (t : Tok) : Oth t2 (.bytes a t)
  | bool (b : Bool) : Oth t2 (.bool b)
  | ref : Oth t2 (.ref t2)
  | zero (t : Tok) : Oth t2 (.int 0 t)
theorem Oth.other {t2 : Addr} {v : Value} (h : Oth t2 v) : Other v := by cases h <;> constructor
theorem first_of (t2 : Addr) (a b c e : Tok) {fm : Int} (h0 : 0 ≤ fm) (h1 : fm < 7) : ∃ fv, [Value.none, .bytes #[120] a, .bool true, .ref t2, .int 0 b, .bytes #[] c, .int 1 e][fm.toNat]? = some fv ∧ ((fm = 6 ∧ fv = .int 1 e) ∨ (fm ≠ 6 ∧ Oth t2 fv)) := by
  have : fm = 0 ∨ fm = 1 ∨ fm = 2 ∨ fm = 3 ∨ fm = 4 ∨ fm = 5 ∨ fm = 6 := in7 h0 h1
  rcases this with h | h | h | h | h | h | h <;> subst h
  · exact ⟨_, rfl, .inr ⟨by decide, .none⟩⟩
  · exact ⟨_, rfl, .inr ⟨by decide, .bytes ..⟩⟩
  · exact ⟨_, rfl, .inr ⟨by decide, .bool _⟩⟩
  · exact ⟨_, rfl, .inr ⟨by decide, .ref⟩⟩
  · exact ⟨_, rfl, .inr ⟨by decide, .zero _⟩⟩
  · exact ⟨_, rfl, .inr ⟨by decide, .bytes ..⟩⟩
  · exact ⟨_, rfl, .inl ⟨rfl, rfl⟩⟩
theorem TabIn.consN {h₀ h : Heap} {L : Addr} {p : Addr × Obj} {l : Led} {t : Addr} {Y : Lay} {T : Tab} (_ : News h₀ L h (p :: l)) (hT : TabIn l t Y T) : TabIn (p :: l) t Y T := hT.mono fun _ hp => .tail _ hp
theorem kfix1 {nw : Led} {t : Addr} {Y : Lay} {T0 : Tab} {n : Int} {fv : Value} {a b : Array UInt8} {tx : Tok} (_ : TabIn nw t Y (kset (kset T0 0 fv) (n + 1) (.bytes a tx))) (K : ∀ t u tk, KeptA T0 n fv (.bytes a t) (.bytes b u) tk) : ∀ u tk, KeptA T0 n fv (.bytes a tx) (.bytes b u) tk := K tx
theorem kfix2 {nw : Led} {t : Addr} {Y : Lay} {T0 : Tab} {n : Int} {fv : Value} {a b : Array UInt8} {tx ty : Tok} (_ : TabIn nw t Y (kset (kset (kset (kset T0 0 fv) (n + 1) (.bytes a tx)) (n + 1) fv) 0 (.int (n + 1) ty))) (K : ∀ u tk, KeptA T0 n fv (.bytes a tx) (.bytes b u) tk) : ∀ u, KeptA T0 n fv (.bytes a tx) (.bytes b u) ty := fun u => K u ty
theorem kfix3 {nw : Led} {t : Addr} {Y : Lay} {T0 : Tab} {n : Int} {u : Value} {tx : Tok} (_ : TabIn nw t Y (kset T0 0 (.int 1 tx))) (K : ∀ (a : Array UInt8) (t1 t : Tok), KeptB T0 n (.int 1 t1) (.bytes a t) u) : ∀ (a : Array UInt8) (t : Tok), KeptB T0 n (.int 1 tx) (.bytes a t) u := fun a t => K a tx t
theorem kfix4 {nw : Led} {t : Addr} {Y : Lay} {T0 : Tab} {n : Int} {f u : Value} {a : Array UInt8} {ty : Tok} (_ : TabIn nw t Y (kset (kset (kset T0 0 f) 0 u) 1 (.bytes a ty))) (K : ∀ (a : Array UInt8) (t : Tok), KeptB T0 n f (.bytes a t) u) : KeptB T0 n f (.bytes a ty) u := K a ty
noncomputable def TabThere (t2 d2 : Addr) : Led → Prop := fun nw => (t2, instObj 408 d2) ∈ nw ∧ ∃ o, (d2, o) ∈ nw
theorem free_other (w : World) (t t2 d2 : Addr) (Y : Lay) (T : Tab) {fv : Value} (h : Oth t2 fv) (hv : getInt T 0 = some fv) : FreeS w t Y T (TabThere t2 d2) .none := by
  cases h with
  | none => exact fnum_not w t Y T _ _ ((isnum_none w).mono (fun _ _ => trivial) fun _ _ _ _ _ _ _ _ r => r) hv
  | bytes a u => exact fnum_not w t Y T _ _ ((isnum_bytes w a u).mono (fun _ _ => trivial) fun _ _ _ _ _ _ _ _ r => r) hv
  | bool b => exact fnum_not w t Y T _ _ ((isnum_bool w b).mono (fun _ _ => trivial) fun _ _ _ _ _ _ _ _ r => r) hv
  | ref => exact fnum_not w t Y T _ _ (isnum_tab w t2 d2) hv
  | zero u => exact (fnum_zero w t Y T u hv).mono (fun _ h => h.1) fun _ _ _ _ _ _ _ _ r => r
theorem free_int (w : World) (t : Addr) (Y : Lay) (T : Tab) {i : Int} {tk : Tok} (h0 : i ≠ 0) (hv : getInt T 0 = some (.int i tk)) : FreeS w t Y T Any (.int i tk) :=
  (fnum_int w t Y T i tk (by simpa using h0) hv).mono (fun _ h => h.1) fun _ _ _ _ _ _ _ _ r => r
theorem wd_P38_66 : True := by
  k_with "call ref" => (k_here; (first | (with_reducible show wpAny _ _ (call (Value.ref 438) _) _ _ _) | (with_reducible show wpAny _ _ (call (Value.ref 408) _) _ _ _) | (with_reducible show wpAny _ _ (call (Value.ref 266) _) _ _ _) | (with_reducible show wpAny _ _ (call (Value.ref 377) _) _ _ _) | (with_reducible show wpAny _ _ (call (Value.ref 417) _) _ _ _) | (with_reducible show wpAny _ _ (call (Value.ref 259) _) _ _ _) | (with_reducible show wpAny _ _ (call (Value.ref 424) _) _ _ _) | (with_reducible show wpAny _ _ (call (Value.ref 431) _) _ _ _)); refine Halt.go ?_)
  exact trivial
set_option maxRecDepth 100000 in
set_option maxHeartbeats 8000000 in
theorem kept_spec (w : World) (d f : Addr) (xs : List Int) (k : Nat) (hk100 : k < 50) (hx : xs.length < 1000) : Spec w 464 [.ref d] 260 (fun nw => DiceAt nw d f xs k) (fun n0 r n1 => r = .bool true) := by
  unfold Spec
  k_fill
  intro mean mg mb dp un gd cn cs a ccd cl outer A₀ base h₀ L m news s Q E B F X N TP hk hP hd hu hret
  w_top on
  w_on
  have hD := hP
  k_steps
  constructor
  obtain ⟨hb1a, hb1b⟩ := thr_lt xs k (many := 7) (by decide)
  obtain ⟨hb2a, hb2b⟩ := thr_lt xs (k + 1) (many := 4) (by decide)
  ((refine' Spec.useK (newtab_spec w) ?k1 ?k2 ?k3 ?k4 ?k5 ?kK ?kP ?kd ?ku ?C ?_; (case k1 => k_asm); (case k2 => k_asm); (case k3 => k_asm); (case k4 => k_asm); (case k5 => k_asm); (case kK => first | exact rfl | assumption); (case kP => trivial); (case kd => walk_at "KD"); (case ku => walk_at "KU"); (case C => (intro G c r' nA R'; obtain ⟨t, Y, e1, hT1, hs1, hnew1⟩ := R'; subst e1; revert nA t Y hT1 hs1 hnew1; exact c)); k_whole; intro nA t Y hT1 hs1 hnew1 h' tk' F' N'); (try dsimp only); (try k_sweep))
  have hS1 := St.new hD hT1 hs1 hnew1
  k_steps
  constructor
  (rename News _ _ _ _ => lN0)
  have lN1 := Halt.mk lN0
  ((refine' Spec.useK (thrown_spec w d f xs k 7 _ (by decide) (by decide) (by omega) hx) ?k1 ?k2 ?k3 ?k4 ?k5 ?kK ?kP ?kd ?ku ?C ?_; (case k1 => k_asm); (case k2 => k_asm); (case k3 => k_asm); (case k4 => k_asm); (case k5 => k_asm); (case kK => first | exact rfl | assumption); (case kP => exact hS1.dice); (case kd => walk_at "KD"); (case ku => walk_at "KU"); (case C => (intro G c r' nB R'; obtain ⟨⟨tv, e1⟩, hD2, hK2⟩ := R'; subst e1; revert nB tv hD2 hK2; exact c)); k_whole; intro nB tv hD2 hK2 h' tk' F' N'); (try dsimp only); (try k_sweep))
  have hn1 := St.nl lN1.go hS1
  have hS2 := St.thrown lN1.go hS1 hD2 hK2 hn1
  k_steps
  constructor
  (rename News _ _ _ _ => lN0)
  have lN2 := Halt.mk lN0
  have t1 : ∀ (l : Led) (a : Addr × Obj), ∀ p ∈ l, p ∈ a :: l := fun _ _ p hp => .tail _ hp
  ((refine' Spec.useK (thrown_spec w d f xs (k + 1) 4 _ (by decide) (by decide) (by omega) hx) ?k1 ?k2 ?k3 ?k4 ?k5 ?kK ?kP ?kd ?ku ?C ?_; (case k1 => k_asm); (case k2 => k_asm); (case k3 => k_asm); (case k4 => k_asm); (case k5 => k_asm); (case kK => first | exact rfl | assumption); (case kP => exact hS2.dice.mono (t1 nB _)); (case kd => walk_at "KD"); (case ku => walk_at "KU"); (case C => (intro G c r' nC R'; obtain ⟨⟨tv2, e1⟩, hD3, hK3⟩ := R'; subst e1; revert nC tv2 hD3 hK3; exact c)); k_whole; intro nC tv2 hD3 hK3 h' tk' F' N'); (try dsimp only); (try k_sweep))
  have hS3 := St.thrown lN2.go (hS2.mono (t1 nB _)) hD3 hK3 hn1
  obtain ⟨n, hn⟩ : ∃ n : Nat, thr xs (k + 1) 4 = (n : Int) := ⟨(thr xs (k + 1) 4).toNat, by omega⟩
  rw [hn] at hb2a hb2b ⊢
  have hB := Halt.mk hb2b
  clear hb2a hb2b hn
  have hT3 := hS3.tab
  k_steps
  constructor
  (rename IsRange _ _ _ _ _ _ _ _ => hR)
  (rename Fr _ _ _ _ => lF); (rename News _ _ _ _ => lN)
  with_unfolding_all refine' for_range (n := n) (σ := Unit) (fun _ => []) [] (fun i _ nw => ∃ Yc vs, TabIn nw t Yc (ktab vs) ∧ KVs vs ∧ vs.length = i) () rfl hR (by have := hB.go; exact small_one (by omega) (by omega) (by omega) (by omega)) (by have := hB.go; rw [rangeSize_one]; split <;> omega) lF lN ?hk ?start ?turn ?done
  case hk => exact fun _ hp => nomatch hp
  case start => exact ⟨Y, [], hT3, .k0, rfl⟩
  case turn =>
    clear lF lN hT3
    rintro _ i ti uu nw I it h tk hi hcl hI ⟨Yc, vs, hT, hV, hl⟩ F N
    have hB2 := hB.go
    have hset : ∀ x t', setT (ktab vs) (.int (0 + (i : Int) + 1)) (.int x t') = some (ktab (vs ++ [.int x t'])) := fun x t' => by
      rw [show 0 + (i : Int) + 1 = (vs.length : Int) + 1 by omega]; exact (hV.set (by omega) x t').1
    have hVn : ∀ x t', KVs (vs ++ [.int x t']) := fun x t' => (hV.set (by omega) x t').2
    have hT2 : TabIn ((I, it) :: nw) t Yc (ktab vs) := hT.mono fun p hp => .tail _ hp
    have hIY : I ∉ touch Yc := fun hm => by
      obtain ⟨o, ho⟩ := hT.touch_mem hm
      exact hI _ ho rfl
    (try k_fold)
    k_steps
    constructor
    ((refine' Spec.useT (set_spec w t Yc (ktab vs) _ _ _ _ (KV.int _ _) trivial rfl (hset _ _)) ?k1 ?k2 ?k3 ?k4 ?k5 ?kK ?kP ?kd ?ku ?_; (case k1 => k_asm); (case k2 => k_asm); (case k3 => k_asm); (case k4 => k_asm); (case k5 => k_asm); (case kK => first | exact rfl | assumption); (case kP => exact hT2); (case kd => walk_at "KD"); (case ku => walk_at "KU"); k_whole; intro h' tk' n' Y9 F' N' hT9 hS9); (try dsimp only); (try k_sweep))
    k_steps
    (rename News _ _ _ _ => N9)
    refine te_end () (by assumption) N9 (fun q hq => by rw [List.mem_singleton.mp hq]; exact (hS9.off (.head _) hIY).1) (fun _ hp => nomatch hp) (by (first | (intro z h1 h2 h3; have h4 := ne_true_of_eq_false h3; simp only [List.forall_mem_cons, List.not_mem_nil, false_implies, implies_true, and_true, ne_eq] at h2; (try simp only [List.contains_cons, List.contains_nil, Bool.or_false, Bool.or_eq_false_iff, beq_eq_false_iff_ne, ne_eq] at h3); (repeat first | with_reducible rfl | (refine Eq.trans (kstB_ne ?zqs) ?_; (case zqs => first | exact h1 | exact h2 | exact h2.1 | exact h2.2 | exact h2.2.1 | exact h2.2.2 | exact h2.2.2.1 | exact h2.2.2.2 | exact h3 | exact h3.1 | exact h3.2 | exact h3.2.1 | exact h3.2.2 | exact h4)) | (refine Eq.trans (kstB_nil _ _) ?_) | (refine Eq.trans (if_neg ?zqs) ?_; (case zqs => first | exact h1 | exact h2 | exact h2.1 | exact h2.2 | exact h2.2.1 | exact h2.2.2 | exact h2.2.2.1 | exact h2.2.2.2 | exact h3 | exact h3.1 | exact h3.2 | exact h3.2.1 | exact h3.2.2 | exact h4))); done) | (intro z h1 h2 h3; simp only [List.forall_mem_cons, List.not_mem_nil, false_implies, implies_true, and_true, ne_eq] at h2; (try simp only [List.contains_cons, List.contains_nil, Bool.or_false, Bool.or_eq_false_iff, beq_eq_false_iff_ne, ne_eq] at h3); simp +zetaDelta [kstB, h1, h2, h3]))) ⟨Y9, _, hT9.offl N9 (fun q hq => by rw [List.mem_singleton.mp hq]; exact (hS9.off (.head _) hIY).1) (iterLed1 hcl (by decide)), hVn _ _, ?_⟩
    rw [List.length_append, hl]; rfl
  case done =>
    clear lF lN hT3
    rintro _ u nw h tk ⟨Yc, vs, hT, hV, hl⟩ F N
    have hlen : lenP (ktab vs) = some (n : Int) := by
      obtain ⟨u, _, hk⟩ := kept_b hV
      rw [← hl]; exact (hk #[] default default).len
    have hM9 := haltAt "subscriptTail"
    k_steps
    constructor
    ((refine' Spec.useI (length_spec w t Yc _ _ hlen) ?k1 ?k2 ?k3 ?k4 ?k5 ?kK ?kP ?kd ?ku ?_; (case k1 => k_asm); (case k2 => k_asm); (case k3 => k_asm); (case k4 => k_asm); (case k5 => k_asm); (case kK => first | exact rfl | assumption); (case kP => exact hT); (case kd => walk_at "KD"); (case ku => walk_at "KU"); k_whole; intro t1 h' tk' F' N'); (try dsimp only); (try k_sweep))
    k_steps
    constructor
    ((refine' Spec.useK (newtab_spec w) ?k1 ?k2 ?k3 ?k4 ?k5 ?kK ?kP ?kd ?ku ?C ?_; (case k1 => k_asm); (case k2 => k_asm); (case k3 => k_asm); (case k4 => k_asm); (case k5 => k_asm); (case kK => first | exact rfl | assumption); (case kP => trivial); (case kd => walk_at "KD"); (case ku => walk_at "KU"); (case C => (intro G c r' nD R'; obtain ⟨t2, Y2, e1, hT2, hs2, hnew2⟩ := R'; subst e1; revert nD t2 Y2 hT2 hs2 hnew2; exact c)); k_whole; intro nD t2 Y2 hT2 hs2 hnew2 h' tk' F' N'); (try dsimp only); (try k_sweep))
    have hT0 := hT
    have hT := hT.mono hs2
    have hS2c : TabThere t2 Y2.d nD := ⟨hT2.inst, (by obtain ⟨o, _, ho⟩ := hT2.dict; exact ⟨o, ho⟩)⟩
    have hYt2 : t2 ∉ touch Yc := fun hm => by
      obtain ⟨o, ho⟩ := hT0.touch_mem hm
      exact Nat.lt_irrefl _ (hnew2 t2 (.head _) _ ho)
    have hYd2 : Y2.d ∉ touch Yc := fun hm => by
      obtain ⟨o, ho⟩ := hT0.touch_mem hm
      exact Nat.lt_irrefl _ (hnew2 Y2.d (.tail _ (.head _)) _ ho)
    clear hnew2 hT2
    k_steps
    constructor
    (rename News _ _ _ _ => lN3)
    obtain ⟨fm, hfm⟩ : ∃ fm, fm = thr xs k 7 := ⟨_, rfl⟩
    rw [← hfm] at hb1a hb1b ⊢
    obtain ⟨fv, hfv, hcase⟩ := first_of t2 _ _ _ _ hb1a hb1b
    have hT4 := TabIn.consN lN3 hT
    refine itemP (vs := [_, _, _, _, _, _, _]) lN3 (.head _) hb1a (by omega) hfv ?_ (by with_unfolding_all rfl)
    rcases hcase with ⟨h6, e6⟩ | ⟨h6, ho⟩
    · subst h6
      subst e6
      obtain ⟨uw, hu, K⟩ := kept_b hV
      rw [hl] at K
      have huh : handedIn uw = true := by rcases hu with rfl | ⟨x, r, rfl⟩ <;> rfl
      have hb6 : (thr xs k 7 == 6) = true := by rw [← hfm]; rfl
      k_steps
      constructor
      ((refine' Spec.useT (set_spec w t Yc (ktab vs) _ _ _ _ (KV.int 0 _) trivial rfl (K #[] default _).s1) ?k1 ?k2 ?k3 ?k4 ?k5 ?kK ?kP ?kd ?ku ?_; (case k1 => k_asm); (case k2 => k_asm); (case k3 => k_asm); (case k4 => k_asm); (case k5 => k_asm); (case kK => first | exact rfl | assumption); (case kP => exact hT4); (case kd => walk_at "KD"); (case ku => walk_at "KU"); k_whole; intro h' tk' n' Y9 F' N' hT9 hS9); (try dsimp only); (try k_sweep))
      have K2 := kfix3 hT9 fun a t1 t => K a t t1
      k_steps
      constructor
      ((refine' Spec.useV (fnum_int w t Y9 _ 1 _ rfl (K2 #[] default).g0) ?k1 ?k2 ?k3 ?k4 ?k5 ?kK ?kP ?kd ?ku ?_; (case k1 => k_asm); (case k2 => k_asm); (case k3 => k_asm); (case k4 => k_asm); (case k5 => k_asm); (case kK => first | exact rfl | assumption); (case kP => exact hT9); (case kd => walk_at "KD"); (case ku => walk_at "KU"); k_whole; intro h' tk' F' N'); (try dsimp only); (try k_sweep))
      k_steps
      constructor
      ((refine' Spec.useV (get_spec w t Y9 _ 1 _ _ (K2 #[] default).g1) ?k1 ?k2 ?k3 ?k4 ?k5 ?kK ?kP ?kd ?ku ?_; (case k1 => k_asm); (case k2 => k_asm); (case k3 => k_asm); (case k4 => k_asm); (case k5 => k_asm); (case kK => first | exact rfl | assumption); (case kP => exact hT9); (case kd => walk_at "KD"); (case ku => walk_at "KU"); k_whole; intro h' tk' F' N'); (try dsimp only); (try k_sweep))
      k_steps
      constructor
      ((refine' Spec.useK (keepB w t Y9 _ _ 1 _ (free_int w t Y9 _ (by decide) (K2 #[] default).g0) _ _ (K2 #[] default).g1 huh rfl _ _ (K2 #[] default).s2 (K2 _ _).s3) ?k1 ?k2 ?k3 ?k4 ?k5 ?kK ?kP ?kd ?ku ?C ?_; (case k1 => k_asm); (case k2 => k_asm); (case k3 => k_asm); (case k4 => k_asm); (case k5 => k_asm); (case kK => first | exact rfl | assumption); (case kP => exact ⟨hT9, trivial⟩); (case kd => walk_at "KD"); (case ku => walk_at "KU"); (case C => (intro G c r' n' R'; obtain ⟨⟨tk1, e1⟩, Y10, hT10, hS10⟩ := R'; subst e1; revert n' tk1 Y10 hT10 hS10; exact c)); k_whole; intro n' tk1 Y10 hT10 hS10 h' tk' F' N'); (try dsimp only); (try k_sweep))
      have K3 := kfix4 hT10 K2
      k_steps
      constructor
      ((refine' Spec.useV (get_spec w t Y10 _ 1 _ _ K3.g31) ?k1 ?k2 ?k3 ?k4 ?k5 ?kK ?kP ?kd ?ku ?_; (case k1 => k_asm); (case k2 => k_asm); (case k3 => k_asm); (case k4 => k_asm); (case k5 => k_asm); (case kK => first | exact rfl | assumption); (case kP => exact hT10); (case kd => walk_at "KD"); (case ku => walk_at "KU"); k_whole; intro h' tk' F' N'); (try dsimp only); (try k_sweep))
      k_steps
      constructor
      ((refine' Spec.useV (get_spec w t Y10 _ 0 _ _ K3.g30) ?k1 ?k2 ?k3 ?k4 ?k5 ?kK ?kP ?kd ?ku ?_; (case k1 => k_asm); (case k2 => k_asm); (case k3 => k_asm); (case k4 => k_asm); (case k5 => k_asm); (case kK => first | exact rfl | assumption); (case kP => exact hT10); (case kd => walk_at "KD"); (case ku => walk_at "KU"); k_whole; intro h' tk' F' N'); (try dsimp only); (try k_sweep))
      rcases hu with rfl | ⟨x, r, rfl⟩
      · k_steps
        exact hret _ _ _ _ (by k_asm) (by k_asm) rfl
      · have hxx : (x == x) = true := by simp
        k_steps
        exact hret _ _ _ _ (by k_asm) (by k_asm) (congrArg Value.bool hxx)
    · have K := fun t u tk => kept_a hV ho.other #[107, 101, 112, 116] #[109, 111, 114, 101] t u tk
      rw [hl] at K
      have hne : ((n : Int) + 1 != (n : Int) + 1) = false := by simp
      have heq : ((n : Int) + 1 == (n : Int) + 1) = true := by simp
      have hb6 : (thr xs k 7 == 6) = false := by rw [beq_eq_false_iff_ne, ← hfm]; exact h6
      k_steps
      constructor
      ((refine' Spec.useT (set_spec w t Yc (ktab vs) _ _ fv _ (KV.int 0 _) trivial ho.other.hand (K default default default).s1) ?k1 ?k2 ?k3 ?k4 ?k5 ?kK ?kP ?kd ?ku ?_; (case k1 => k_asm); (case k2 => k_asm); (case k3 => k_asm); (case k4 => k_asm); (case k5 => k_asm); (case kK => first | exact rfl | assumption); (case kP => exact hT4); (case kd => walk_at "KD"); (case ku => walk_at "KU"); k_whole; intro h' tk' nE Y9 F' N' hT9 hS9); (try dsimp only); (try k_sweep))
      have hP9 : TabThere t2 Y2.d nE := ⟨(hS9.off (.tail _ hS2c.1) hYt2).1, by obtain ⟨o, ho2⟩ := hS2c.2; exact ⟨o, (hS9.off (.tail _ ho2) hYd2).1⟩⟩
      have S := free_other w t t2 Y2.d Y9 (kset (ktab vs) 0 fv) ho (K default default default).g0
      k_steps
      constructor
      ((refine' Spec.useV S ?k1 ?k2 ?k3 ?k4 ?k5 ?kK ?kP ?kd ?ku ?_; (case k1 => k_asm); (case k2 => k_asm); (case k3 => k_asm); (case k4 => k_asm); (case k5 => k_asm); (case kK => first | exact rfl | assumption); (case kP => exact ⟨hT9, hP9⟩); (case kd => walk_at "KD"); (case ku => walk_at "KU"); k_whole; intro h' tk' F' N'); (try dsimp only); (try k_sweep))
      k_steps
      constructor
      ((refine' Spec.useV (get_spec w t Y9 _ 1 _ _ (K default default default).g1) ?k1 ?k2 ?k3 ?k4 ?k5 ?kK ?kP ?kd ?ku ?_; (case k1 => k_asm); (case k2 => k_asm); (case k3 => k_asm); (case k4 => k_asm); (case k5 => k_asm); (case kK => first | exact rfl | assumption); (case kP => exact hT9); (case kd => walk_at "KD"); (case ku => walk_at "KU"); k_whole; intro h' tk' F' N'); (try dsimp only); (try k_sweep))
      k_steps
      constructor
      ((refine' Spec.useK (keepA w t Y9 _ _ S (n : Int) (K default default default).len1 _ rfl _ (K _ default default).s2) ?k1 ?k2 ?k3 ?k4 ?k5 ?kK ?kP ?kd ?ku ?C ?_; (case k1 => k_asm); (case k2 => k_asm); (case k3 => k_asm); (case k4 => k_asm); (case k5 => k_asm); (case kK => first | exact rfl | assumption); (case kP => exact ⟨hT9, hP9⟩); (case kd => walk_at "KD"); (case ku => walk_at "KU"); (case C => (intro G c r' n' R'; obtain ⟨⟨tk1, e1⟩, Y10, hT10, hS10⟩ := R'; subst e1; revert n' tk1 Y10 hT10 hS10; exact c)); k_whole; intro n' tk1 Y10 hT10 hS10 h' tk' F' N'); (try dsimp only); (try k_sweep))
      have K2 := kfix1 hT10 K
      k_steps
      constructor
      ((refine' Spec.useV (get_spec w t Y10 _ ((n : Int) + 1) _ _ (K2 default default).g2) ?k1 ?k2 ?k3 ?k4 ?k5 ?kK ?kP ?kd ?ku ?_; (case k1 => k_asm); (case k2 => k_asm); (case k3 => k_asm); (case k4 => k_asm); (case k5 => k_asm); (case kK => first | exact rfl | assumption); (case kP => exact hT10); (case kd => walk_at "KD"); (case ku => walk_at "KU"); k_whole; intro h' tk' F' N'); (try dsimp only); (try k_sweep))
      k_steps
      constructor
      ((refine' Spec.useK (drop_spec w t Y10 _ ((n : Int) + 1) _ (by omega) fv (K2 default default).g20 ho.other.hand _ _ (K2 default default).s3 (K2 default _).s4) ?k1 ?k2 ?k3 ?k4 ?k5 ?kK ?kP ?kd ?ku ?C ?_; (case k1 => k_asm); (case k2 => k_asm); (case k3 => k_asm); (case k4 => k_asm); (case k5 => k_asm); (case kK => first | exact rfl | assumption); (case kP => exact hT10); (case kd => walk_at "KD"); (case ku => walk_at "KU"); (case C => (intro G c r' n' R'; obtain ⟨e1, Y11, hT11, hS11⟩ := R'; subst e1; revert n' Y11 hT11 hS11; exact c)); k_whole; intro n' Y11 hT11 hS11 h' tk' F' N'); (try dsimp only); (try k_sweep))
      have K3 := kfix2 hT11 K2
      k_steps
      constructor
      ((refine' Spec.useV (get_spec w t Y11 _ 0 _ _ (K3 default).g40) ?k1 ?k2 ?k3 ?k4 ?k5 ?kK ?kP ?kd ?ku ?_; (case k1 => k_asm); (case k2 => k_asm); (case k3 => k_asm); (case k4 => k_asm); (case k5 => k_asm); (case kK => first | exact rfl | assumption); (case kP => exact hT11); (case kd => walk_at "KD"); (case ku => walk_at "KU"); k_whole; intro h' tk' F' N'); (try dsimp only); (try k_sweep))
      k_steps
      constructor
      ((refine' Spec.useK (keepB w t Y11 _ _ _ _ (free_int w t Y11 _ (by omega) (K3 default).g40) fv _ (K3 default).g41 ho.other.hand rfl _ _ (K3 default).s5 (K3 _).s6) ?k1 ?k2 ?k3 ?k4 ?k5 ?kK ?kP ?kd ?ku ?C ?_; (case k1 => k_asm); (case k2 => k_asm); (case k3 => k_asm); (case k4 => k_asm); (case k5 => k_asm); (case kK => first | exact rfl | assumption); (case kP => exact ⟨hT11, trivial⟩); (case kd => walk_at "KD"); (case ku => walk_at "KU"); (case C => (intro G c r' n' R'; obtain ⟨⟨tk2, e1⟩, Y12, hT12, hS12⟩ := R'; subst e1; revert n' tk2 Y12 hT12 hS12; exact c)); k_whole; intro n' tk2 Y12 hT12 hS12 h' tk' F' N'); (try dsimp only); (try k_sweep))
      k_steps
      exact hret _ _ _ _ (by k_asm) (by k_asm) (congrArg Value.bool heq)

end
section
/-! str(i).encode() for a digit i -/
open PySem.Builtin
theorem gives_enc0 (x : Str) (c : UInt8) (t : Tok) (h : Builtin._codecs.encodeNarrow "str.encode" Builtin._codecs.utf8Codec none (.str x t) x = pure #[c]) : Gives (Builtin.«str.encode» ⟨[.str x t], []⟩) (.bytes #[c]) := by
  rw [encode_tree, encodeRoad_utf8, h]
  exact .of_eq rfl
theorem encN_0 (t : Tok) : Builtin._codecs.encodeNarrow "str.encode" Builtin._codecs.utf8Codec none (.str (Str.ofString "0") t) (Str.ofString "0") = pure #[48] := by kernel_rfl
theorem encN_1 (t : Tok) : Builtin._codecs.encodeNarrow "str.encode" Builtin._codecs.utf8Codec none (.str (Str.ofString "1") t) (Str.ofString "1") = pure #[49] := by kernel_rfl
theorem encN_2 (t : Tok) : Builtin._codecs.encodeNarrow "str.encode" Builtin._codecs.utf8Codec none (.str (Str.ofString "2") t) (Str.ofString "2") = pure #[50] := by kernel_rfl
theorem encN_3 (t : Tok) : Builtin._codecs.encodeNarrow "str.encode" Builtin._codecs.utf8Codec none (.str (Str.ofString "3") t) (Str.ofString "3") = pure #[51] := by kernel_rfl
theorem encN_4 (t : Tok) : Builtin._codecs.encodeNarrow "str.encode" Builtin._codecs.utf8Codec none (.str (Str.ofString "4") t) (Str.ofString "4") = pure #[52] := by kernel_rfl
section
variable {prog : Program} {w : World} {A : Around} {E : Value → Shared → Prop} {s : Shared}
theorem encode_digit {x : Str} {c : UInt8} {t : Tok} {Q : Value → Shared → Prop} (hn : Builtin._codecs.encodeNarrow "str.encode" Builtin._codecs.utf8Codec none (.str x t) x = pure #[c]) (h : Q (.bytes #[c] s.toks) { s with toks := s.toks + 1 }) : wpAny (model prog w) A (call (.builtin "str.encode") [.str x t]) Q E s :=
  call_gives F.slot_str_encode (typeIs_str _ _ _) F.entry_str_encode (F.args_str_encode_1 _) (gives_enc0 x c t hn) ⟨(by size_fits), h⟩
theorem getm_encode {x : Str} {t : Tok} {pl : Sem Bool} {Q : Value × List Value → Shared → Prop} (h : Q (.builtin "str.encode", [.str x t]) s) : wpAny (model prog w) A (getMethod (.str x t) "encode" pl) Q E s := by
  with_reducible exact GM.of (.str x t) (typeIs_str _ _ _) F.slot_str_encode F.type_str_encode GM.noRef h
end

end
section
open PySem.SeqAt PySem.Builtin
theorem wd_P39_0 : True := by
  k_with_none
  exact trivial
theorem wd_P39_67 : True := by
  k_with "KD" => first | exact dlt (by assumption) (by first | decide | omega) | exact dlt1 (by assumption) (by first | decide | omega) | exact dlt0 (by assumption) | ktr_room
  k_with "KU" => first | exact ult (by assumption) (by first | decide | omega) | ktr_units
  k_with "ENTER" => (refine' enter_ ?zqk1 ?zqk2 ?zqk3 ?zqk4 ?zqk5 ?zqkA ?zqkF ?zqkK ?zqk6 ?zqk7 ?zqk8 ?zqk9 ?zqkB ?_ ?zqc2 ?zqc3 ?zqc4 ?zqc5; (case zqkA => exact rfl); (case zqkF => exact rfl); (case zqkK => first | exact rfl | assumption); (case zqk1 => k_asm); (case zqk2 => k_asm); (case zqk3 => k_asm); (case zqk4 => k_asm); (case zqk5 => k_asm); (case zqk6 => k_is); (case zqk7 => k_is); (case zqk8 => walk_at "KD"); (case zqk9 => first | exact BindsTo.of_eq rfl | exact binds_K (by k_in) rfl (by k_is) rfl rfl rfl | fail "ENTER: no rule for these arguments"); (case zqc5 => decide); (case zqkB => exact locs rfl); (case zqc2 => exact rfl); (case zqc3 => exact rfl); (case zqc4 => exact rfl); k_whole; intro g' L' h' tk' FG' mm F' N' B' X' T' qk ek)
  k_with "call ref" => (k_here; k_dflt (first | (refine' call_cls0 ?zqk1 ?zqk2 ?zqk3 ?zqk4 ?zqk5 ?_; (case zqk1 => k_asm); (case zqk2 => k_asm); (case zqk3 => k_asm); (case zqk4 => k_is); (case zqk5 => k_is); k_whole; intro x' d' h' F' N' l1 l2; (try k_lt l1); (try k_lt2 l2); (try k_sweep)) | (refine' call_cls ?zqk1 ?zqk2 ?zqk3 ?zqk4 ?zqk5 ?zqk6 ?_; (case zqk1 => k_asm); (case zqk2 => k_asm); (case zqk3 => k_asm); (case zqk4 => k_is); (case zqk5 => k_is); (case zqk6 => k_is); k_whole; intro x' d' h' F' N' l1 l2; (try k_lt l1); (try k_lt2 l2); (try k_sweep); walk_at "ENTER") | (refine' call_meth ?zqk1 ?zqk2 ?_; (case zqk1 => k_asm); (case zqk2 => k_mem); k_whole; walk_at "ENTER") | (refine wpAny_call ?_; walk_at "ENTER")))
  k_with "call builtin:len" => (k_here; (with_reducible show wpAny _ _ (call (Value.builtin "len") [Value.ref _]) _ _ _); k_dflt (refine' kst_len ?zqk1 ?zqk2 ?zqk3 ?zqk4 ?_; (case zqk1 => k_asm); (case zqk2 => k_mem); (case zqk3 => first | assumption | exact rfl); (case zqk4 => omega); k_whole))
  k_with "WhileStep2" => (first | (with_reducible show WhileStep2 _ _ _ _ _ _ (Flow.ret _) _) | (with_reducible show WhileStep2 _ _ _ _ _ _ Flow.brk _)); (dsimp only [WhileStep2])
  k_with "execs cons" => (k_here; refine wpAny_execs_cons (foldQ ?_); intro qs)
  k_with "storeName" => (k_here; (try dsimp only); k_dflt (refine' store_ ?zqF ?zqN ?_ ?zqa ?zqb; (case zqF => k_asm); (case zqN => k_asm); (case zqa => first | exact rfl | assumption); (case zqb => rfl); k_whole; intro h' tk' mm F' N'; (try k_sweep)))
  k_with "exec While Compare cons nil" => refine Halt.go ?_
  k_with "pyIter ref" => refine Halt.go ?_
  k_with "call type:enumerate" => refine Halt.go ?_
  k_with "KswEnd" => refine Halt.at (k := "KswEnd") (by assumption) ?_
  k_with "subscriptTail" => refine Halt.at (k := "subscriptTail") (by assumption) ?_
  k_with "eval ListComp" => refine Halt.at (k := "eval ListComp") (by assumption) ?_
  k_with "CompSrc" => refine Halt.at (k := "CompSrc") (by assumption) ?_
  k_with "CompEnd" => refine Halt.at (k := "CompEnd") (by assumption) ?_
  k_with "call ref" => refine Halt.at (k := "call ref") (by assumption) ?_
  k_with "call builtin:sorted" => refine Halt.at (k := "call builtin:sorted") (by assumption) ?_
  k_with "call builtin:repr" => refine Halt.at (k := "call builtin:repr") (by assumption) ?_
  k_with "unpackItems ref" => refine Halt.at (k := "unpackItems ref") (by assumption) ?_
  k_with "compareOp Eq ref ref" => refine Halt.at (k := "compareOp Eq ref ref") (by assumption) ?_
  k_with "call type:str" => refine Halt.at (k := "call type:str") (by assumption) ?_
  k_with "K4" => ((case zqk1 => k_asm); (case zqk2 => k_asm); (case zqk3 => k_asm); (case zqk4 => k_asm))
  k_with "K56" => ((case zqk5 => first | assumption | (with_unfolding_all assumption)); (case zqk6 => first | assumption | (with_unfolding_all assumption)))
  k_with "KN" => (k_whole; intro h' tj' n' F' N' hT' hK'; (try dsimp only); (try k_sweep))
  k_with "getAttr ref" => (k_here; (with_reducible show wpAny _ _ (getAttr (Value.ref _) (PySem.Str.ofString "free") _) _ _ _); k_dflt (refine' get_free ?zqk1 ?zqk2 ?zqk3 ?zqk4 ?_; walk_at "K4"; k_whole; intro tk' tj'; (try dsimp only)))
  k_with "getAttr ref" => (k_here; (with_reducible show wpAny _ _ (getAttr (Value.ref _) (PySem.Str.ofString "size") _) _ _ _); k_dflt (refine' get_size ?zqk1 ?zqk2 ?zqk3 ?zqk4 ?_; walk_at "K4"; k_whole; intro tk' tj'; (try dsimp only)))
  k_with "getAttr ref" => (k_here; (with_reducible show wpAny _ _ (getAttr (Value.ref _) (PySem.Str.ofString "array") _) _ _ _); k_dflt (refine' get_array ?zqk1 ?zqk2 ?zqk3 ?zqk4 ?_; walk_at "K4"; k_whole; intro tj'; (try dsimp only)))
  k_with "getAttr ref" => (k_here; (with_reducible show wpAny _ _ (getAttr (Value.ref _) (PySem.Str.ofString "nodes") _) _ _ _); k_dflt (refine' get_nodes ?zqk1 ?zqk2 ?zqk3 ?zqk4 ?_; walk_at "K4"; k_whole; intro tj'; (try dsimp only)))
  k_with "getAttr ref" => (k_here; (with_reducible show wpAny _ _ (getAttr (Value.ref _) (PySem.Str.ofString "key") _) _ _ _); k_dflt (first | (refine' get_key_none ?zqk1 ?zqk2 ?zqk3 ?zqk4 ?zqk5 ?zqk6 ?zqk7 ?_; walk_at "K4"; walk_at "K56"; (case zqk7 => assumption); k_whole; intro tj'; (try dsimp only)) | (refine' get_key_some ?zqk1 ?zqk2 ?zqk3 ?zqk4 ?zqk5 ?zqk6 ?zqk7 ?_; walk_at "K4"; walk_at "K56"; (case zqk7 => assumption); k_whole; intro kv' tj' hkv'; (try dsimp only)) | (refine' get_key_any ?zqk1 ?zqk2 ?zqk3 ?zqk4 ?zqk5 ?zqk6 ?_; walk_at "K4"; walk_at "K56"; k_whole; intro kv' tj' hkv'; (try dsimp only))))
  k_with "getAttr ref" => (k_here; (with_reducible show wpAny _ _ (getAttr (Value.ref _) (PySem.Str.ofString "value") _) _ _ _); k_dflt (refine' get_value ?zqk1 ?zqk2 ?zqk3 ?zqk4 ?zqk5 ?zqk6 ?_; walk_at "K4"; walk_at "K56"; k_whole; intro tj'; (try dsimp only)))
  k_with "getAttr ref" => (k_here; (with_reducible show wpAny _ _ (getAttr (Value.ref _) (PySem.Str.ofString "next") _) _ _ _); k_dflt (refine' get_next ?zqk1 ?zqk2 ?zqk3 ?zqk4 ?zqk5 ?zqk6 ?_; walk_at "K4"; walk_at "K56"; k_whole; intro tk' tj'; (try dsimp only)))
  k_with "setAttr ref" => (k_here; (with_reducible show wpAny _ _ (setAttr (Value.ref _) (PySem.Str.ofString "free") _) _ _ _); k_dflt (refine' set_free ?zqk1 ?zqk2 ?zqk3 ?zqk4 ?_; walk_at "K4"; walk_at "KN"))
  k_with "setAttr ref" => (k_here; (with_reducible show wpAny _ _ (setAttr (Value.ref _) (PySem.Str.ofString "size") _) _ _ _); k_dflt (refine' set_size ?zqk1 ?zqk2 ?zqk3 ?zqk4 ?_; walk_at "K4"; walk_at "KN"))
  k_with "setAttr ref" => (k_here; (with_reducible show wpAny _ _ (setAttr (Value.ref _) (PySem.Str.ofString "flags") _) _ _ _); k_dflt (refine' set_flags ?zqk1 ?zqk2 ?zqk3 ?zqk4 ?_; walk_at "K4"; walk_at "KN"))
  k_with "setAttr ref" => (k_here; (with_reducible show wpAny _ _ (setAttr (Value.ref _) (PySem.Str.ofString "log_nodes") _) _ _ _); k_dflt (refine' set_log_nodes ?zqk1 ?zqk2 ?zqk3 ?zqk4 ?_; walk_at "K4"; walk_at "KN"))
  k_with "setAttr ref" => (k_here; (with_reducible show wpAny _ _ (setAttr (Value.ref _) (PySem.Str.ofString "key") _) _ _ _); k_dflt (refine' set_key ?zqk1 ?zqk2 ?zqk3 ?zqk4 ?zqk5 ?zqk6 ?zqk7 ?_; walk_at "K4"; walk_at "K56"; (case zqk7 => first | assumption | exact KV.none); walk_at "KN"))
  k_with "setAttr ref" => (k_here; (with_reducible show wpAny _ _ (setAttr (Value.ref _) (PySem.Str.ofString "value") _) _ _ _); k_dflt (refine' set_value ?zqk1 ?zqk2 ?zqk3 ?zqk4 ?zqk5 ?zqk6 ?zqk7 ?_; walk_at "K4"; walk_at "K56"; (case zqk7 => first | assumption | rfl); walk_at "KN"))
  k_with "setAttr ref" => (k_here; (with_reducible show wpAny _ _ (setAttr (Value.ref _) (PySem.Str.ofString "next") _) _ _ _); k_dflt (refine' set_next ?zqk1 ?zqk2 ?zqk3 ?zqk4 ?zqk5 ?zqk6 ?_; walk_at "K4"; walk_at "K56"; walk_at "KN"))
  k_with "getMethod ref" => (k_here; (with_reducible show wpAny _ _ (getMethod (Value.ref _) _ _) _ _ _); k_dflt (refine' tab_meth ?zqk1 ?zqk2 ?zqk3 ?zqk4 ?zqk5 ?zqk6 ?zqk7 ?zqk8 ?_; walk_at "K4"; (case zqk5 => k_is); (case zqk6 => k_is); (case zqk7 => k_is); (case zqk8 => decide +kernel); k_whole))
  k_with "call builtin:len" => (k_here; (with_reducible show wpAny _ _ (call (Value.builtin "len") [Value.ref _]) _ _ _); k_dflt (first | (refine' len_nodes ?zqk3 ?zqk4 ?_; (case zqk3 => k_asm); (case zqk4 => k_asm); k_whole; intro tk' tj'; (try dsimp only)) | (refine' len_arr ?zqk3 ?zqk4 ?_; (case zqk3 => k_asm); (case zqk4 => k_asm); k_whole; intro tk' tj'; (try dsimp only))))
  k_with "subscriptTail" => (k_here; (with_reducible show wpAny _ _ (subscriptTail _ _ (Value.ref _) (Value.int _ _)) _ _ _); k_dflt (first | (refine' item_node ?zqk3 ?zqk4 ?zqk5 ?zqk6 ?_ ?zqk7; (case zqk3 => k_asm); (case zqk4 => k_asm); (case zqk5 => assumption); (case zqk6 => first | assumption | omega); (case zqk7 => with_unfolding_all rfl); k_whole) | (refine' item_arr ?zqk3 ?zqk4 ?zqk5 ?zqk6 ?_ ?zqk7; (case zqk3 => k_asm); (case zqk4 => k_asm); (case zqk5 => assumption); (case zqk6 => first | assumption | omega); (case zqk7 => with_unfolding_all rfl); k_whole)))
  k_with "setItem ref int" => (k_here; (with_reducible show wpAny _ _ (setItem (Value.ref _) (Value.int _ _) _) _ _ _); k_dflt (refine' set_arr ?zqk1 ?zqk3 ?zqk4 ?zqk5 ?zqk6 ?_; (case zqk1 => k_asm); (case zqk3 => k_asm); (case zqk4 => k_asm); (case zqk5 => omega); (case zqk6 => (try dsimp only); omega); k_whole; intro h' n' F' N' hT' hK'; (try dsimp only); (try k_sweep)))
  k_with "call builtin:list.append" => (k_here; (with_reducible show wpAny _ _ (call (Value.builtin _) [Value.ref _, _]) _ _ _); k_dflt (refine' app_arr ?zqk1 ?zqk3 ?zqk4 ?zqk5 ?_; (case zqk1 => k_asm); (case zqk3 => k_asm); (case zqk4 => k_asm); (case zqk5 => (try dsimp only); omega); k_whole; intro h' n' F' N' hT' hK'; (try dsimp only); (try k_sweep)))
  k_with "compareOp Is" => (k_here; (with_reducible show wpAny _ _ (compareOp CmpOp.Is _ Value.none) _ _ _); k_dflt (refine' kv_isnone ?zqk1 ?_; (case zqk1 => assumption); k_whole))
  k_with "exec For Name Name cons nil" => (k_here; (rename Fr _ _ _ _ => lF'); (with_unfolding_all refine' For_invVF lF' ?zqk1 ?zqk2 ?_; (case zqk1 => exact rfl); (case zqk2 => exact rfl); k_whole))
  k_with "exec For Name Call cons nil" => (k_here; (rename Fr _ _ _ _ => lF'); (with_unfolding_all refine' For_invVF lF' ?zqk1 ?zqk2 ?_; (case zqk1 => exact rfl); (case zqk2 => exact rfl); k_whole))
  k_with "exec For Name Attribute cons nil" => (k_here; (rename Fr _ _ _ _ => lF'); (with_unfolding_all refine' For_invVF lF' ?zqk1 ?zqk2 ?_; (case zqk1 => exact rfl); (case zqk2 => exact rfl); k_whole))
  k_with "TP" => ((first | (with_reducible show Mine.TP _ _ _ _ _ _ (Flow.ret _) _) | (with_reducible show Mine.TP _ _ _ _ _ _ Flow.brk _) | (with_reducible show Mine.TP _ _ _ _ _ _ Flow.next _) | (with_reducible show Mine.TP _ _ _ _ _ _ Flow.cont _)); (dsimp only [Mine.TP]))
  k_with "compareOp Is" => (k_here; (with_reducible show wpAny _ _ (compareOp CmpOp.Is _ Value.none) _ _ _); k_dflt (first | (refine' is_eq ?zqk1 ?_; (case zqk1 => assumption); k_whole) | (refine' is_ne ?zqk1 ?_; (case zqk1 => assumption); k_whole)))
  k_with "compareOp IsNot" => (k_here; (with_reducible show wpAny _ _ (compareOp CmpOp.IsNot _ Value.none) _ _ _); k_dflt (first | (refine' isnot_eq ?zqk1 ?_; (case zqk1 => assumption); k_whole) | (refine' isnot_ne ?zqk1 ?_; (case zqk1 => assumption); k_whole)))
  exact trivial

theorem Spec0.use {w : World} {f : Addr} {args : List Value} {cost : Nat} {P : Led → Prop} {R : Led → Value → Led → Prop} (S : Spec0 w f args cost P R)
    {mean : ExcName → Option Value} {mg mb : Str → Option Value} {dp un : Nat} {cn : Str} {cs : Scope} {a : Addr} {ccd : Value} {A₀ : Around} {base h₀ : Heap} {L : Addr} {m : Str → Option Value} {news : Led} {s : Shared}
    {Q E : Value → Shared → Prop} (B : Below A₀ base [] h₀) (F : Fr h₀ L s.heap m) (X : (Mine.hd.heap_1 w.params).In h₀) (N : News h₀ L s.heap news) (T : Top VW LO mean mg mb h₀) (XB : (Mine.hd.heap_1 w.params).In base) (TB : Top VW LO mean mg mb base) (hk : cs.kind = .function) (hP : P news) (hd : dp + cost < recursionLimit) (hu : un + 8 * cost < cLine)
    (ret : ∀ r h' tk' news', Fr h₀ L h' m → News h₀ L h' news' → R news r news' → Q r { s with heap := h', toks := tk' }) :
    wpAny (model PySem.Challenge.rw_pq0681_01.row.prog w) (ktrTop dp un (some []) cn cs L a ccd [] []) (call (.ref f) args) Q E s :=
  S _ _ _ _ _ _ _ _ _ _ _ _ _ _ _ _ _ _ B F X N T XB TB hk hP hd hu ret
theorem dice0 {h₀ h : Heap} {L d f : Addr} {ws : List Value} {xs : List Int} {tk : Tok} {c1 c2 : Nat} (_ : News h₀ L h [(d, listOf #[.ref f, .int 0 tk] c1), (f, listOf ws.toArray c2)]) (hI : IntsAre ws xs) (hlt : f < d) (hl : xs.length ≤ 24) :
    ∃ (nw : Led) (d' f' : Addr) (xs' : List Int), nw = [(d, listOf #[.ref f, .int 0 tk] c1), (f, listOf ws.toArray c2)] ∧ d' = d ∧ f' = f ∧ xs'.length < 1000 ∧ DiceAt nw d' f' xs' 0 :=
  ⟨_, _, _, xs, rfl, rfl, rfl, by omega, _, _, .head _, ⟨_, _, hI, .tail _ (.head _)⟩, Nat.ne_of_gt hlt⟩
theorem wd_P39_68 : True := by
  k_with "call ref" => (k_here; (first | (with_reducible show wpAny _ _ (call (Value.ref 438) _) _ _ _) | (with_reducible show wpAny _ _ (call (Value.ref 408) _) _ _ _) | (with_reducible show wpAny _ _ (call (Value.ref 266) _) _ _ _) | (with_reducible show wpAny _ _ (call (Value.ref 457) _) _ _ _) | (with_reducible show wpAny _ _ (call (Value.ref 464) _) _ _ _)); refine Halt.go ?_)
  exact trivial
theorem St.offl {h₀ h : Heap} {L I : Addr} {it : Obj} {nw nw' : Led} {d f t : Addr} {xs : List Int} {k j : Nat} {Y Y0 : Lay} {T T0 : Tab} (N : News h₀ L h nw') (hS : St nw' d f t xs k Y T) (hI : (I, it) ∈ nw') (hcl : it.cls = .type "range_iterator") (h0 : St nw d f t xs j Y0 T0) (hn : ∀ p ∈ nw, p.1 ≠ I) : St (offl [(I, it)] nw') d f t xs k Y T := by
  obtain ⟨_, _, hm0, ⟨_, _, _, hf0⟩, _⟩ := h0.dice
  obtain ⟨⟨c, tk, hm, ⟨vs, c2, hi, hf⟩, hne⟩, hT, h1, h2⟩ := hS
  refine ⟨⟨c, tk, mem_offl.mpr ⟨hm, fun q hq => ?_⟩, ⟨vs, c2, hi, mem_offl.mpr ⟨hf, fun q hq => ?_⟩⟩, hne⟩, hT.offl N (fun q hq => by rw [List.mem_singleton.mp hq]; exact hI) (iterLed1 hcl (by decide)), h1, h2⟩
  · rw [List.mem_singleton.mp hq]; have := hn _ hm0; exact this
  · rw [List.mem_singleton.mp hq]; have := hn _ hf0; exact this
theorem mem2 {h₀ h : Heap} {L : Addr} {a b p : Addr × Obj} {l : Led} (_ : News h₀ L h (a :: b :: l)) (hp : p ∈ l) : p ∈ a :: b :: l := .tail _ (.tail _ hp)
theorem St.cons2 {h₀ h : Heap} {L : Addr} {a b : Addr × Obj} {nw : Led} {d f t : Addr} {xs : List Int} {k : Nat} {Y : Lay} {T : Tab} (_ : News h₀ L h (a :: b :: nw)) (hS : St nw d f t xs k Y T) : St (a :: b :: nw) d f t xs k Y T := hS.mono fun _ hp => .tail _ (.tail _ hp)
theorem wd_P39_69 : True := by
  k_with "getMethod str" => (k_here; with_reducible refine getm_encode ?_)
  k_with "call builtin:str.encode" => (k_here; first | refine encode_digit (encN_0 _) ?_ | refine encode_digit (encN_1 _) ?_ | refine encode_digit (encN_2 _) ?_ | refine encode_digit (encN_3 _) ?_ | refine encode_digit (encN_4 _) ?_)
  exact trivial
inductive Gate : Prop
  | mk
theorem wd_P39_70 : True := by
  k_with "eval BinOp" => (k_here; (rename Gate => hGate9); (with_reducible show wpAny _ _ (PySem.eval (PySem.Expr.BinOp (PySem.Expr.Constant (PySem.Const.bytes _) _ _) _ _ _) _) _ _ _); clear hGate9; refine Halt.go ?_)
  exact trivial
noncomputable def KeyB (s : Shared) (x : Int) (v : Value) (s' : Shared) : Prop := ∃ b t tk, v = .bytes b t ∧ b.toList = [107, (48 + x).toNat.toUInt8] ∧ s' = { s with toks := tk }
theorem join_key {M : Model} {A : Around} {t : Sem Value} {Q : Value → Shared → Prop} {E : Value → Shared → Prop} {s : Shared} (x : Int) (h : wpAny M A t (KeyB s x) E s) (k : ∀ b tb tk, b.toList = [107, (48 + x).toNat.toUInt8] → Q (.bytes b tb) { s with toks := tk }) : wpAny M A t Q E s :=
  wpAny_mono h (fun _ _ q => by obtain ⟨b, tb, tk, rfl, hb, rfl⟩ := q; exact k b tb tk hb) fun _ _ e => e
theorem key_of {x fm : Int} (h0 : 0 ≤ x) (h5 : x < 5) (f0 : 0 ≤ fm) (f3 : fm < 3) {b : Array UInt8} (hb : b.toList = [107, (48 + x).toNat.toUInt8]) (t1 t2 t3 : Tok) :
    ∃ kv k, [Value.int (1 + x) t1, .int (0 - x) t2, .bytes b t3][fm.toNat]? = some kv ∧ KV kv (some k) ∧ Good k := by
  have hx : x = 0 ∨ x = 1 ∨ x = 2 ∨ x = 3 ∨ x = 4 := in5 h0 h5
  have hf : fm = 0 ∨ fm = 1 ∨ fm = 2 := in3 f0 f3
  rcases hf with h | h | h <;> subst h
  · exact ⟨_, _, rfl, .int _ _, by rcases hx with h | h | h | h | h <;> subst h <;> (show _ ∈ goodKs; decide +kernel)⟩
  · exact ⟨_, _, rfl, .int _ _, by rcases hx with h | h | h | h | h <;> subst h <;> (show _ ∈ goodKs; decide +kernel)⟩
  · exact ⟨_, _, rfl, .bts _ _, by rw [hb]; rcases hx with h | h | h | h | h <;> subst h <;> (show _ ∈ goodKs; decide +kernel)⟩
set_option maxRecDepth 100000 in
set_option maxHeartbeats 8000000 in
theorem law_holds : PySem.Challenge.rw_pq0681_01.Holds := Mine.hd (by
  k_fill
  intro w s₀ s₁ mg mb G Y fa o pm cd doc dV kV ho hd hcd hD hmg hg args vals as hpre hlay hrd hwl hlo
  have KX := kIn_of Y
  have X := (Ground.X G).1
  refine Ground.open G ?_
  intro T B D TE TW
  (try (refine guard_noD D (by decide +kernel) ?_; clear D))
  obtain ⟨_, _, M⟩ := bmod_of_top T
  have TA := at_of_top T
  (try (obtain ⟨_, _, he, B0⟩ := based_of_top T rfl hmg ho hd; have he' : cd = _ := he; subst he'; clear he))
  clear hmg
  wrow_args hpre hlay hrd hwl hlo
  refine enter_call ?_
  w_top on
  (try refine codeAny_mono ?_ (fun _ _ g => GoodW.toG g))
  have K0 := below_caller (Top.heap T)
  w_call any ho hd hcd hD T F
  clear hd TA
  k_drop
  (all_goals try k_fold)
  have hM9 := haltAt "pyIter ref"
  have hM9 := haltAt "subscriptTail"
  k_steps
  constructor
  (rename IntsAre _ (List.take _ _) => hI)
  (rename News _ _ _ _ => lN0)
  obtain ⟨n0, d, f, xs, e1, e2, e3, hx, hD⟩ := dice0 lN0 hI (by assumption) (by rw [List.length_take]; omega)
  subst e1
  subst e2
  subst e3
  ((refine' Spec.useK (newtab_spec _) ?k1 ?k2 ?k3 ?k4 ?k5 ?kK ?kP ?kd ?ku ?C ?_; (case k1 => k_asm); (case k2 => k_asm); (case k3 => k_asm); (case k4 => k_asm); (case k5 => k_asm); (case kK => first | exact rfl | assumption); (case kP => trivial); (case kd => walk_at "KD"); (case ku => walk_at "KU"); (case C => (intro G c r' nA R'; obtain ⟨t, Y, e1, hT1, hs1, hnew1⟩ := R'; subst e1; revert nA t Y hT1 hs1 hnew1; exact c)); k_whole; intro nA t Y hT1 hs1 hnew1 h' tk' F' N'); (try dsimp only); (try k_sweep))
  have hS1 := St.new hD hT1 hs1 hnew1
  k_steps
  constructor
  obtain ⟨hb1a, hb1b⟩ := thr_lt xs 0 (many := 6) (by decide)
  (rename News _ _ _ _ => lN0)
  have lN1 := Halt.mk lN0
  ((refine' Spec.useK (thrown_spec _ d f xs 0 6 _ (by decide) (by decide) (by omega) hx) ?k1 ?k2 ?k3 ?k4 ?k5 ?kK ?kP ?kd ?ku ?C ?_; (case k1 => k_asm); (case k2 => k_asm); (case k3 => k_asm); (case k4 => k_asm); (case k5 => k_asm); (case kK => first | exact rfl | assumption); (case kP => exact hS1.dice); (case kd => walk_at "KD"); (case ku => walk_at "KU"); (case C => (intro G c r' nB R'; obtain ⟨⟨tv, e1⟩, hD2, hK2⟩ := R'; subst e1; revert nB tv hD2 hK2; exact c)); k_whole; intro nB tv hD2 hK2 h' tk' F' N'); (try dsimp only); (try k_sweep))
  have hS2 := St.thrown lN1.go hS1 hD2 hK2 (St.nl lN1.go hS1)
  obtain ⟨n, hn⟩ : ∃ n : Nat, thr xs 0 6 = (n : Int) := ⟨(thr xs 0 6).toNat, by omega⟩
  rw [hn] at hb1a hb1b ⊢
  have hB := Halt.mk hb1b
  clear hb1a hb1b hn
  k_steps
  constructor
  (rename IsRange _ _ _ _ _ _ _ _ => hR)
  (rename Fr _ _ _ _ => lF); (rename News _ _ _ _ => lN)
  with_unfolding_all refine' for_range (n := n) (σ := Unit) (fun _ => []) [Str.ofString "form", Str.ofString "number"] (fun i _ nw => ∃ Yc Tc, St nw d f t xs (1 + 2 * i) Yc Tc ∧ WF Tc ∧ (ents Tc).length ≤ i) () rfl hR (by have := hB.go; exact small_one (by omega) (by omega) (by omega) (by omega)) (by have := hB.go; rw [rangeSize_one]; split <;> omega) lF lN ?hk ?start ?turn ?done
  case hk => exact fun _ hp => nomatch hp
  case start => exact ⟨Y, _, hS2, empty_wf, Nat.zero_le _⟩
  case turn =>
    clear lF lN hS2
    rintro _ i ti uu nw I it h tk hi hcl hI ⟨Yc, Tc, hS, hW, hl⟩ F N
    have hS2 : St ((I, it) :: nw) d f t xs (1 + 2 * i) Yc Tc := hS.mono fun p hp => .tail _ hp
    have hIY : I ∉ touch Yc := fun hm => by
      obtain ⟨o, ho⟩ := hS.tab.touch_mem hm
      exact hI _ ho rfl
    (try k_fold)
    k_steps
    constructor
    have hB2 := hB.go
    obtain ⟨cd, td, hmd, _, _⟩ := id hS.dice
    have hId : I ≠ d := fun e => hI _ hmd e.symm
    obtain ⟨h3a, h3b⟩ := thr_lt xs (1 + 2 * i) (many := 3) (by decide)
    obtain ⟨h5a, h5b⟩ := thr_lt xs (1 + 2 * i + 1) (many := 5) (by decide)
    (rename News _ _ _ _ => lN0)
    have lN2 := Halt.mk lN0
    ((refine' Spec.useK (thrown_spec _ d f xs (1 + 2 * i) 3 _ (by decide) (by decide) (by omega) hx) ?k1 ?k2 ?k3 ?k4 ?k5 ?kK ?kP ?kd ?ku ?C ?_; (case k1 => k_asm); (case k2 => k_asm); (case k3 => k_asm); (case k4 => k_asm); (case k5 => k_asm); (case kK => first | exact rfl | assumption); (case kP => exact hS2.dice); (case kd => walk_at "KD"); (case ku => walk_at "KU"); (case C => (intro G c r' nC R'; obtain ⟨⟨tv1, e1⟩, hD3, hK3⟩ := R'; subst e1; revert nC tv1 hD3 hK3; exact c)); k_whole; intro nC tv1 hD3 hK3 h' tk' F' N'); (try dsimp only); (try k_sweep))
    have hS3 := St.thrown lN2.go hS2 hD3 hK3 (St.nl lN2.go hS2)
    have hI3 := hK3 _ (.head _) hId
    k_steps
    constructor
    (rename News _ _ _ _ => lN0)
    have lN3 := Halt.mk lN0
    ((refine' Spec.useK (thrown_spec _ d f xs (1 + 2 * i + 1) 5 _ (by decide) (by decide) (by omega) hx) ?k1 ?k2 ?k3 ?k4 ?k5 ?kK ?kP ?kd ?ku ?C ?_; (case k1 => k_asm); (case k2 => k_asm); (case k3 => k_asm); (case k4 => k_asm); (case k5 => k_asm); (case kK => first | exact rfl | assumption); (case kP => exact hS3.dice); (case kd => walk_at "KD"); (case ku => walk_at "KU"); (case C => (intro G c r' nD R'; obtain ⟨⟨tv2, e1⟩, hD4, hK4⟩ := R'; subst e1; revert nD tv2 hD4 hK4; exact c)); k_whole; intro nD tv2 hD4 hK4 h' tk' F' N'); (try dsimp only); (try k_sweep))
    have hS4 := St.thrown lN3.go hS3 hD4 hK4 (St.nl lN3.go hS3)
    have hI4 := hK4 _ hI3 hId
    have hT4 := hS4.tab
    have t1 : ∀ (l : Led) (a : Addr × Obj), ∀ p ∈ l, p ∈ a :: l := fun _ _ p hp => .tail _ hp
    have hM9 := haltAt "unpackItems ref"
    k_steps
    constructor
    (rename News _ _ _ _ => lN4)
    have hT5 := TabIn.consN lN4 hT4
    repeat (rename HaltAt _ => hM9; clear hM9)
    have hM9 := haltAt "pyIter ref"
    have hM9 := haltAt "subscriptTail"
    have hM9 := haltAt "call type:str"
    have hGate : Gate := .mk
    k_steps
    constructor
    refine join_key (thr xs (1 + 2 * i + 1) 5) ?key ?rest
    case key =>
      k_steps
      constructor
      generalize thr xs (1 + 2 * i + 1) 5 = x at h5a h5b ⊢
      have hx : x = 0 ∨ x = 1 ∨ x = 2 ∨ x = 3 ∨ x = 4 := in5 h5a h5b
      rcases hx with h | h | h | h | h <;> subst h <;> refine P.str_of_int (by decide) ?_
      · rw [show (toString (0 : Int) : Str) = Str.ofString "0" from by decide]
        (try dsimp only)
        k_steps
        exact ⟨_, _, _, rfl, rfl, rfl⟩
      · rw [show (toString (1 : Int) : Str) = Str.ofString "1" from by decide]
        (try dsimp only)
        k_steps
        exact ⟨_, _, _, rfl, rfl, rfl⟩
      · rw [show (toString (2 : Int) : Str) = Str.ofString "2" from by decide]
        (try dsimp only)
        k_steps
        exact ⟨_, _, _, rfl, rfl, rfl⟩
      · rw [show (toString (3 : Int) : Str) = Str.ofString "3" from by decide]
        (try dsimp only)
        k_steps
        exact ⟨_, _, _, rfl, rfl, rfl⟩
      · rw [show (toString (4 : Int) : Str) = Str.ofString "4" from by decide]
        (try dsimp only)
        k_steps
        exact ⟨_, _, _, rfl, rfl, rfl⟩
    case rest =>
      intro b tb tkb hb
      (try dsimp only)
      k_steps
      constructor
      (rename News _ _ _ _ => lN6)
      have hT6 := TabIn.consN lN6 hT5
      have hI6 := mem2 lN6 hI4
      have hS6 := St.cons2 lN6 hS4
      obtain ⟨kv, kk, hkv, hKV, hG⟩ := key_of h5a h5b h3a h3b hb _ _ _
      have hset : ∀ t', ∃ T', setT Tc kk (.int (10 + (0 + (i : Int))) t') = some T' ∧ WF T' ∧ (ents T').length ≤ (ents Tc).length + 1 := fun t' => set_law hW hG ⟨_, _, rfl, by omega, by omega⟩ (by omega)
      obtain ⟨Tf, hTf⟩ := Classical.axiomOfChoice hset
      refine itemP (vs := [_, _, _]) lN6 (.head _) h3a (by omega) hkv ?_ (by with_unfolding_all rfl)
      k_steps
      constructor
      ((refine' Spec.useT (set_spec _ t Yc Tc kv kk _ _ hKV hG.keyOk rfl (hTf _).1) ?k1 ?k2 ?k3 ?k4 ?k5 ?kK ?kP ?kd ?ku ?_; (case k1 => k_asm); (case k2 => k_asm); (case k3 => k_asm); (case k4 => k_asm); (case k5 => k_asm); (case kK => first | exact rfl | assumption); (case kP => exact hT6); (case kd => walk_at "KD"); (case ku => walk_at "KU"); k_whole; intro h' tk' n' Y9 F' N' hT9 hS9); (try dsimp only); (try k_sweep))
      have hS10 := St.resized hS6 hT9 hS9
      have hI9 := (hS9.off hI6 hIY).1
      k_steps
      (rename News _ _ _ _ => N9)
      have hQ := (fun {tkx : Tok} (_ : TabIn n' t Y9 (Tf tkx)) => hTf tkx) hT9
      have hS11 := hS10.offl N9 hI9 hcl hS hI
      rw [show 1 + 2 * i + 1 + 1 = 1 + 2 * (i + 1) by omega] at hS11
      exact te_end () (by assumption) N9 (fun q hq => by rw [List.mem_singleton.mp hq]; exact hI9) (fun _ hp => nomatch hp) (by (first | (intro z h1 h2 h3; have h4 := ne_true_of_eq_false h3; simp only [List.forall_mem_cons, List.not_mem_nil, false_implies, implies_true, and_true, ne_eq] at h2; (try simp only [List.contains_cons, List.contains_nil, Bool.or_false, Bool.or_eq_false_iff, beq_eq_false_iff_ne, ne_eq] at h3); (repeat first | with_reducible rfl | (refine Eq.trans (kstB_ne ?zqs) ?_; (case zqs => first | exact h1 | exact h2 | exact h2.1 | exact h2.2 | exact h2.2.1 | exact h2.2.2 | exact h2.2.2.1 | exact h2.2.2.2 | exact h3 | exact h3.1 | exact h3.2 | exact h3.2.1 | exact h3.2.2 | exact h4)) | (refine Eq.trans (kstB_nil _ _) ?_) | (refine Eq.trans (if_neg ?zqs) ?_; (case zqs => first | exact h1 | exact h2 | exact h2.1 | exact h2.2 | exact h2.2.1 | exact h2.2.2 | exact h2.2.2.1 | exact h2.2.2.2 | exact h3 | exact h3.1 | exact h3.2 | exact h3.2.1 | exact h3.2.2 | exact h4))); done) | (intro z h1 h2 h3; simp only [List.forall_mem_cons, List.not_mem_nil, false_implies, implies_true, and_true, ne_eq] at h2; (try simp only [List.contains_cons, List.contains_nil, Bool.or_false, Bool.or_eq_false_iff, beq_eq_false_iff_ne, ne_eq] at h3); simp +zetaDelta [kstB, h1, h2, h3]))) ⟨Y9, _, hS11, hQ.2.1, Nat.le_trans hQ.2.2 (by omega)⟩
  case done =>
    clear lF lN hS2
    rintro _ uu nw h tk ⟨Yc, Tc, hS, hW, hl⟩ F N
    have hB2 := hB.go
    obtain ⟨p1, p2⟩ := thr_lt xs (1 + 2 * n) (many := 4) (by decide)
    obtain ⟨p3, p4⟩ := thr_lt xs (1 + 2 * n + 1) (many := 4) (by decide)
    obtain ⟨TN, hWN, hpN, href, hres⟩ := sizes_law hW (by omega) p1 p2 p3 p4
    obtain ⟨p5, p6⟩ := thr_lt xs (1 + 2 * n + 2) (many := 4) (by decide)
    obtain ⟨p7, p8⟩ := thr_lt xs (1 + 2 * n + 2 + 1) (many := 4) (by decide)
    have hlN := hpN.length_eq
    obtain ⟨TM, hWM, hpM, href2, hres2⟩ := sizes_law hWN (by omega) p5 p6 p7 p8
    clear p1 p2 p3 p4 p5 p6 p7 p8
    repeat (rename HaltAt _ => hM9; clear hM9)
    k_steps
    constructor
    refine' Spec0.use (lsizes_spec _ d f t xs (1 + 2 * n) Yc Tc TN (ents Tc) (ents TN) (by omega) hx hW.has_key (gone_law hW) (by omega) (fun x hx => small_ent (hW.ents_ok x hx).1 (hW.ents_ok x hx).2) href hres) ?k1 ?k2 ?k3 ?k4 ?k5 ?XB ?TB ?kK ?kP ?kd ?ku ?_
    case k1 => k_asm
    case k2 => k_asm
    case k3 => k_asm
    case k4 => k_asm
    case k5 => k_asm
    case XB => k_asm
    case TB => k_asm
    case kK => first | exact rfl | assumption
    case kP => exact hS
    case kd => walk_at "KD"
    case ku => walk_at "KU"
    k_whole
    intro r' h' tk' n' F' N' R'
    obtain ⟨e1, Y2, hS3⟩ := R'
    subst e1
    (try dsimp only)
    k_steps
    constructor
    refine' Spec0.use (lsizes_spec _ d f t xs (1 + 2 * n + 2) Y2 TN TM (ents TN) (ents TM) (by omega) hx hWN.has_key (gone_law hWN) (by omega) (fun x hx => small_ent (hWN.ents_ok x hx).1 (hWN.ents_ok x hx).2) href2 hres2) ?k1 ?k2 ?k3 ?k4 ?k5 ?XB ?TB ?kK ?kP ?kd ?ku ?_
    case k1 => k_asm
    case k2 => k_asm
    case k3 => k_asm
    case k4 => k_asm
    case k5 => k_asm
    case XB => k_asm
    case TB => k_asm
    case kK => first | exact rfl | assumption
    case kP => exact hS3
    case kd => walk_at "KD"
    case ku => walk_at "KU"
    k_whole
    intro r' h' tk' n' F' N' R'
    obtain ⟨e1, Y3, hS4⟩ := R'
    subst e1
    (try dsimp only)
    k_steps
    constructor
    ((refine' Spec.use (kept_spec _ d f xs (1 + 2 * n + 2 + 2) (by omega) hx) ?k1 ?k2 ?k3 ?k4 ?k5 ?kK ?kP ?kd ?ku ?_; (case k1 => k_asm); (case k2 => k_asm); (case k3 => k_asm); (case k4 => k_asm); (case k5 => k_asm); (case kK => first | exact rfl | assumption); (case kP => exact hS4.dice); (case kd => walk_at "KD"); (case ku => walk_at "KU"); k_whole; intro r' h' tk' n' F' N' R'); skip; (try dsimp only); (try k_sweep))
    subst R'
    k_steps
    trace_state
    (all_goals (try k_data)); all_goals w_report)

end
end Mine
set_option maxRecDepth 100000 in
set_option maxHeartbeats 8000000 in
theorem PySem.Challenge.cw_pq0681_01_holds : PySem.Challenge.rw_pq0681_01.Holds := by
  exact Mine.law_holds
