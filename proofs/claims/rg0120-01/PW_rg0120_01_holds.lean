import PyProof.Rows.All
import Wide.All
import OpenK.AllK
import Wide.FinOn
import KE.KRevIter
import PyProof.DictWalks
import PyProof.StationsW
import PyProof.ExcInit
import PyProof.ExcBaseAll.Exception
import KE.KSuperObj
import PyProof.AttrMissHeap
import KE.KDictOf
import Lean
import PySem.Challenge.RW_rg0120_01
open PySem PySem.W PyProof.Rows PySem.Calls PySem.Spec
set_option Elab.async false
set_option maxRecDepth 8000
namespace Mine
local macro_rules | `(tactic| k_all) => `(tactic| k_extra "M k_all")
local macro_rules | `(tactic| k_ne) => `(tactic| k_extra "M k_ne")
local macro_rules | `(tactic| k_handed) => `(tactic| k_extra "M k_handed")
local macro_rules | `(tactic| kun_tup) => `(tactic| k_extra "M kun_tup")
local macro_rules | `(tactic| k_inst) => `(tactic| k_extra "M k_inst")
local macro_rules | `(tactic| k_steps) => `(tactic| k_extra "M k_steps")
local macro_rules | `(tactic| k_qdec) => `(tactic| decide +kernel)
local macro_rules | `(tactic| walk_at $s:str) => do
  let k := Lean.Syntax.mkStrLit ("M " ++ s.getString)
  `(tactic| k_extra $k)
local macro_rules | `(tactic| case' FRESH => $t:tacticSeq) => do
  let r ← t.raw.rewriteBottomUpM fun s => do
    if s.getKind == ``Lean.Parser.Term.syntheticHole && s[1].isIdent then
      let n ← Lean.Macro.addMacroScope s[1].getId
      return s.setArg 1 (Lean.mkIdent n).raw
    else if s.getKind == ``Lean.Parser.Tactic.caseArg && s[0][0].isIdent then
      let n ← Lean.Macro.addMacroScope s[0][0].getId
      return s.setArg 0 (s[0].setArg 0 (Lean.mkIdent n).raw)
    else if s.isIdent && s.getId.isAtomic && ((s.getId.toString.endsWith "'" && ![`at_lt', `at_ne', `draw_perm', `fm_all', `funFrames_base', `neS', `neZ', `seq_zero'].contains s.getId) || s.getId.toString == "l1" || s.getId.toString == "l2" || s.getId.toString == "l3") then
      let n ← Lean.Macro.addMacroScope s.getId
      return (Lean.mkIdent n).raw
    else return s
  let r : Lean.TSyntax `Lean.Parser.Tactic.tacticSeq := ⟨r⟩
  `(tactic| ($r))
/-! Stage -/
section
abbrev pw := PySem.Challenge.pw_rg0120_01
abbrev rw0 := PySem.Challenge.rw_rg0120_01
def vq : Program := view pw [0,2,3,4,5,7,8,9,10,11,12,14,15,16,17,18,19,20,21,22,24,26,27,28,29,30,31]
section
local macro_rules | `(tactic| o_head $_) => `(tactic| assumption)
/-- nothing is claimed here: it lays the constant that holds the top's own objects -/
theorem hd (h : rw0.row.Holds) : rw0.row.Holds := by x_head
end
end
/-! Left -/
section
def addrs : List Addr := List.range' 0 23 ++ (25 :: (List.range' 30 19 ++ (51 :: (List.range' 58 3 ++ (63 :: (List.range' 70 3 ++ (75 :: 78 :: (List.range' 83 18 ++ (List.range' 103 74 ++ (List.range' 184 41 ++ (List.range' 227 5 ++ (List.range' 239 47 ++ (List.range' 295 17 ++ List.range' 314 38)))))))))))))
theorem addrs_eq : ∀ P, addrs = (hd.heap_1 P).map (·.1) := fun _ => by kernel_rfl
noncomputable abbrev hook : Hook := kHook hd.heap_1 addrs addrs_eq
set_option maxRecDepth 100000 in
set_option maxHeartbeats 0 in
theorem left : LeftO rw0.row.prog vq [] (fun s => xlAt vq [] s && recOk (RowW.records rw0.row.toRowW) s) (Hook.obs hook) (Hook.val hook) 5402 := by
  intro w
  unfold openEnds fencedOpening topFrom
  rewrite [PySem.W.Fast.te14082659384304107361, PySem.W.Fast.te10274390034422433532, PySem.W.Fast.te14289696077712309145, PySem.W.Fast.te14364793385576792824, PySem.W.Fast.te4187177175401517315, PySem.W.Fast.te5923862056798008813]
  kernel_rfl
end
/-! Base -/
section

/-- the goal under a name: what is taken apart behind it does not repeat it -/
theorem hideG {P : Prop} (h : ∀ G : Prop, (P → G) → G) : P := h P id
def Keep (h h' : Heap) : Prop := ∀ b o, h.get? b = some o → h'.get? b = some o
theorem Keep.refl (h : Heap) : Keep h h := fun _ _ e => e
theorem Keep.trans {h₁ h₂ h₃ : Heap} (x : Keep h₁ h₂) (y : Keep h₂ h₃) : Keep h₁ h₃ := fun b o e => y b o (x b o e)

/-! entering a def of the text -/
section
variable {prog : Program} {w : World} {A : Around} {s : Shared} {K : Frag} {g : Heap} {p : Program} {loose : List Str} {mean : ExcName → Option Value} {mg mb : Str → Option Value}
    {R : Result → Shared → Prop} {name qual : Str} {params : Arguments} {body : List Stmt} {scope : Scope} {dV kV doc pm cdv ct oc : Value} {an od : Option Addr} {osl : Array (Option Value)} {f : Addr} {args : Args} {binds : List (Str × Value)}

theorem enterG {own : List (Addr × Obj)}
    (X : K.In g) (T : Top p loose mean mg mb g) (sz : g.objs.size ≤ s.heap.objs.size) (st : Keep g s.heap) (hm : ∀ q ∈ own, s.heap.get? q.1 = some q.2 ∧ g.get? q.1 = none)
    (ho : K.lookup f = some ⟨oc, od, .func (fnOf name qual params body scope dV kV doc pm an cdv ct), osl⟩) (hcd : codeIn K cdv qual = true) (hroom : A.depth < recursionLimit)
    (hbind : BindsTo s (fnOf name qual params body scope dV kV doc pm an cdv ct) args binds) (hloc : ∀ y ∈ binds, scope.names.lookup y.1 = some .local)
    (h : ∀ L h₁ tk, Fr g L h₁ (fun y => binds.reverse.lookup y) → News g L h₁ own → (∀ q ∈ own, q.1 < L) →
      wpAny (model prog w) (A.deeper (envOf qual scope L f cdv)) (execs body (envOf qual scope L f cdv))
        (fun fl s' => R (.ok (.ret (match fl with | .ret v => v | _ => .none))) s')
        (fun e s' => wpAny (model prog w) (A.deeper (envOf qual scope L f cdv)) (leaving (envOf qual scope L f cdv) e) (fun _ s'' => R (.error e) s'') (fun e' s'' => R (.error e') s'') s')
        { s with heap := h₁, toks := tk })
    (hco : scope.isCoroutine = false) (hgen : scope.isGenerator = false) (hk : scope.kind = .function)
    (hcell : ∀ x ∈ scope.names, x.2 ≠ .cell) : codeAny (model prog w) A (.call (.ref f) args) R s := by
  refine codeAny_call_def (fd := fnOf name qual params body scope dV kV doc pm an cdv ct) (body := body) (binds := binds) hroom ((X.keeps st) _ _ ho) rfl (T.nolimit.keeps st) (codeRec_of (X.keeps st) hcd) rfl hbind hcell hloc (fun h₁ hns hk₁ => ?_) hco hgen hk
  exact h s.heap.objs.size h₁ _ ⟨hns, fun b o e => hk₁ b o (st b o e), sz⟩ (fun q hq => ⟨hk₁ _ _ (hm q hq).1, Nat.ne_of_lt (Heap.lt_size (hm q hq).1), (hm q hq).2⟩) (fun q hq => Heap.lt_size (hm q hq).1)

/-- a def that stores into nothing that stands -/
theorem enter0
    (X : K.In s.heap) (T : Top p loose mean mg mb s.heap)
    (ho : K.lookup f = some ⟨oc, od, .func (fnOf name qual params body scope dV kV doc pm an cdv ct), osl⟩) (hcd : codeIn K cdv qual = true) (hroom : A.depth < recursionLimit)
    (hbind : BindsTo s (fnOf name qual params body scope dV kV doc pm an cdv ct) args binds) (hloc : ∀ y ∈ binds, scope.names.lookup y.1 = some .local)
    (h : ∀ L h₁ tk, Fr s.heap L h₁ (fun y => binds.reverse.lookup y) → News s.heap L h₁ [] →
      wpAny (model prog w) (A.deeper (envOf qual scope L f cdv)) (execs body (envOf qual scope L f cdv))
        (fun fl s' => R (.ok (.ret (match fl with | .ret v => v | _ => .none))) s')
        (fun e s' => wpAny (model prog w) (A.deeper (envOf qual scope L f cdv)) (leaving (envOf qual scope L f cdv) e) (fun _ s'' => R (.error e) s'') (fun e' s'' => R (.error e') s'') s')
        { s with heap := h₁, toks := tk })
    (hco : scope.isCoroutine = false) (hgen : scope.isGenerator = false) (hk : scope.kind = .function)
    (hcell : ∀ x ∈ scope.names, x.2 ≠ .cell) : codeAny (model prog w) A (.call (.ref f) args) R s :=
  enterG (own := []) X T (Nat.le_refl _) (Keep.refl _) (fun _ h => nomatch h) ho hcd hroom hbind hloc (fun L h₁ tk F N _ => h L h₁ tk F N) hco hgen hk hcell

/-- a def that stores into one object that stands -/
theorem enter1 {d : Addr} {o : Obj}
    (X : K.In g) (T : Top p loose mean mg mb g) (st : Keep g s.heap) (hd0 : g.get? d = none) (hd1 : s.heap.get? d = some o)
    (ho : K.lookup f = some ⟨oc, od, .func (fnOf name qual params body scope dV kV doc pm an cdv ct), osl⟩) (hcd : codeIn K cdv qual = true) (hroom : A.depth < recursionLimit)
    (hbind : BindsTo s (fnOf name qual params body scope dV kV doc pm an cdv ct) args binds) (hloc : ∀ y ∈ binds, scope.names.lookup y.1 = some .local)
    (h : ∀ g' L h₁ tk, Keep g g' → Keep g' s.heap → (∀ b o', b ≠ d → s.heap.get? b = some o' → g'.get? b = some o') → K.In g' → Top p loose mean mg mb g' → Fr g' L h₁ (fun y => binds.reverse.lookup y) → News g' L h₁ [(d, o)] → d < L →
      wpAny (model prog w) (A.deeper (envOf qual scope L f cdv)) (execs body (envOf qual scope L f cdv))
        (fun fl s' => R (.ok (.ret (match fl with | .ret v => v | _ => .none))) s')
        (fun e s' => wpAny (model prog w) (A.deeper (envOf qual scope L f cdv)) (leaving (envOf qual scope L f cdv) e) (fun _ s'' => R (.error e) s'') (fun e' s'' => R (.error e') s'') s')
        { s with heap := h₁, toks := tk })
    (hco : scope.isCoroutine = false) (hgen : scope.isGenerator = false) (hk : scope.kind = .function)
    (hcell : ∀ x ∈ scope.names, x.2 ≠ .cell) : codeAny (model prog w) A (.call (.ref f) args) R s := by
  have k1 : Keep g (hideAll s.heap [d]) := fun b o' e => hideAll_get _ (st b o' e) fun hm => by rw [List.mem_singleton.mp hm, hd0] at e; cases e
  have k2 : Keep (hideAll s.heap [d]) s.heap := fun b o' e => of_hideAll _ e
  refine enterG (own := [(d, o)]) (X.keeps k1) (T.keeps k1) (Nat.le_of_eq (hideAll_size _ _)) k2 (fun q hq => ?_) ho hcd hroom hbind hloc (fun L h₁ tk F N hl => ?_) hco hgen hk hcell
  · rw [List.mem_singleton.mp hq]; exact ⟨hd1, hideAll_none _ (.head _)⟩
  · exact h _ L h₁ tk k1 k2 (fun b o' hb e => hideAll_get _ e fun hm => hb (List.mem_singleton.mp hm)) (X.keeps k1) (T.keeps k1) F N (hl _ (.head _))
end

/-! data made of tuples -/
inductive Tv (P : Addr → Array Value → Prop) : Value → PyData → Prop
  | none : Tv P .none .none
  | bool (b) : Tv P (.bool b) (.bool b)
  | int (i t) : Tv P (.int i t) (.int i)
  | str (x t) : Tv P (.str x t) (.str x)
  | nil {a} : P a #[] → Tv P (.ref a) (.tuple [])
  | one {a v d} : P a #[v] → Tv P v d → Tv P (.ref a) (.tuple [d])
  | two {a v d v' d'} : P a #[v, v'] → Tv P v d → Tv P v' d' → Tv P (.ref a) (.tuple [d, d'])
  | three {a v d v' d' v'' d''} : P a #[v, v', v''] → Tv P v d → Tv P v' d' → Tv P v'' d'' → Tv P (.ref a) (.tuple [d, d', d''])
  | four {a v1 d1 v2 d2 v3 d3 v4 d4} : P a #[v1, v2, v3, v4] → Tv P v1 d1 → Tv P v2 d2 → Tv P v3 d3 → Tv P v4 d4 → Tv P (.ref a) (.tuple [d1, d2, d3, d4])
  | five {a v1 d1 v2 d2 v3 d3 v4 d4 v5 d5} : P a #[v1, v2, v3, v4, v5] → Tv P v1 d1 → Tv P v2 d2 → Tv P v3 d3 → Tv P v4 d4 → Tv P v5 d5 → Tv P (.ref a) (.tuple [d1, d2, d3, d4, d5])
theorem Tv.mono {P P' : Addr → Array Value → Prop} (hp : ∀ a vs, P a vs → P' a vs) {v : Value} {d : PyData} (x : Tv P v d) : Tv P' v d := by
  induction x with
  | none => exact .none
  | bool b => exact .bool b
  | int i t => exact .int i t
  | str x t => exact .str x t
  | nil h => exact .nil (hp _ _ h)
  | one h _ a => exact .one (hp _ _ h) a
  | two h _ _ a b => exact .two (hp _ _ h) a b
  | three h _ _ _ a b c => exact .three (hp _ _ h) a b c
  | four h _ _ _ _ a b c d => exact .four (hp _ _ h) a b c d
  | five h _ _ _ _ _ a b c d e => exact .five (hp _ _ h) a b c d e
theorem Tv.reads {h : Heap} {v : Value} {d : PyData} (x : Tv (IsTup h) v d) : Reads h v d [] := by
  induction x with
  | none => exact .none
  | bool b => exact .bool b
  | int i t => exact .int i t
  | str x t => exact .str x t
  | nil h => obtain ⟨o, ho, hc, n, hd⟩ := h; exact .tuple ho hc hd .nil
  | one h _ a => obtain ⟨o, ho, hc, n, hd⟩ := h; exact .tuple ho hc hd (.cons (as := []) (bs := []) a .nil)
  | two h _ _ a b => obtain ⟨o, ho, hc, n, hd⟩ := h; exact .tuple ho hc hd (.cons (as := []) (bs := []) a (.cons (as := []) (bs := []) b .nil))
  | three h _ _ _ a b c => obtain ⟨o, ho, hc, n, hd⟩ := h; exact .tuple ho hc hd (.cons (as := []) (bs := []) a (.cons (as := []) (bs := []) b (.cons (as := []) (bs := []) c .nil)))
  | four h _ _ _ _ a b c d => obtain ⟨o, ho, hc, n, hd⟩ := h; exact .tuple ho hc hd (.cons (as := []) (bs := []) a (.cons (as := []) (bs := []) b (.cons (as := []) (bs := []) c (.cons (as := []) (bs := []) d .nil))))
  | five h _ _ _ _ _ a b c d e => obtain ⟨o, ho, hc, n, hd⟩ := h; exact .tuple ho hc hd (.cons (as := []) (bs := []) a (.cons (as := []) (bs := []) b (.cons (as := []) (bs := []) c (.cons (as := []) (bs := []) d (.cons (as := []) (bs := []) e .nil)))))
theorem Tv.handed {P : Addr → Array Value → Prop} {v : Value} {d : PyData} (x : Tv P v d) : handedIn v = true := by cases x <;> rfl

/-! the tuples of a heap, laid into the ledger -/
def tupObj (o : Obj) : Bool := o.cls == .type "tuple" && (match o.data with | .seq .. => true | _ => false)
def tups (h₀ h : Heap) : List (Addr × Obj) := (List.range h.objs.size).filterMap fun a => match h.get? a with
  | some o => if tupObj o && (h₀.get? a).isNone then some (a, o) else none
  | none => none
theorem mem_tups {h₀ h : Heap} {a : Addr} {o : Obj} : (a, o) ∈ tups h₀ h ↔ h.get? a = some o ∧ tupObj o = true ∧ h₀.get? a = none := by
  unfold tups
  rw [List.mem_filterMap]
  constructor
  · rintro ⟨b, _, hb⟩
    split at hb
    · rename_i o' ho
      split at hb
      · rename_i hc
        cases hb
        rw [Bool.and_eq_true, Option.isNone_iff_eq_none] at hc
        exact ⟨ho, hc⟩
      · cases hb
    · cases hb
  · rintro ⟨h1, h2, h3⟩
    refine ⟨a, List.mem_range.mpr (Heap.lt_size h1), ?_⟩
    rw [h1]
    simp [h2, h3]
def AllTup (tl : List (Addr × Obj)) : Prop := ∀ p ∈ tl, tupObj p.2 = true
theorem allTup_tups (h₀ h : Heap) : AllTup (tups h₀ h) := fun ⟨_, _⟩ hp => (mem_tups.mp hp).2.1
theorem AllTup.append {a b : List (Addr × Obj)} (x : AllTup a) (y : AllTup b) : AllTup (a ++ b) := fun p hp => (List.mem_append.mp hp).elim (x p) (y p)
def Tp (h₀ : Heap) (tl : List (Addr × Obj)) (a : Addr) (vs : Array Value) : Prop := IsTup h₀ a vs ∨ ∃ o, (a, o) ∈ tl ∧ o.cls = .type "tuple" ∧ ∃ n, o.data = .seq vs n
theorem isTup_obj {o : Obj} {vs : Array Value} {n : Nat} (hc : o.cls = .type "tuple") (hd : o.data = .seq vs n) : tupObj o = true := by
  unfold tupObj; rw [hc, hd]; rfl

section
variable {h₀ h h' : Heap} {L : Addr} {m : Str → Option Value} {news own tl : List (Addr × Obj)}
theorem Fr.byKeep (F : Fr h₀ L h m) (k : Keep h h') : Fr h₀ L h' m := ⟨F.ns.keeps k, fun b o e => k b o (F.keep b o e), F.above⟩
theorem News.byKeep (N : News h₀ L h news) (k : Keep h h') : News h₀ L h' news := fun p hp => ⟨k _ _ (N p hp).1, (N p hp).2⟩
theorem News.sub (N : News h₀ L h news) (k : ∀ p ∈ own, p ∈ news) : News h₀ L h own := fun p hp => N p (k p hp)
theorem News.app (N : News h₀ L h own) (M : News h₀ L h tl) : News h₀ L h (own ++ tl) := fun p hp => (List.mem_append.mp hp).elim (N p) (M p)
theorem news_tups (F : Fr h₀ L h m) : News h₀ L h (tups h₀ h) := by
  rintro ⟨a, o⟩ hp
  obtain ⟨h1, h2, h3⟩ := mem_tups.mp hp
  refine ⟨h1, ?_, h3⟩
  rintro rfl
  obtain ⟨oL, es, ep, hL, hLd, _⟩ := F.ns
  rw [h1] at hL
  cases hL
  unfold tupObj at h2
  rw [hLd] at h2
  simp at h2
theorem tp_tups (F : Fr h₀ L h m) {a : Addr} {vs : Array Value} (x : IsTup h a vs) : Tp h₀ (tups h₀ h) a vs := by
  obtain ⟨o, ho, hc, n, hd⟩ := x
  cases q : h₀.get? a with
  | some o' =>
    have := F.keep a o' q
    rw [ho] at this
    cases this
    exact .inl ⟨o, q, hc, n, hd⟩
  | none => exact .inr ⟨o, mem_tups.mpr ⟨ho, isTup_obj hc hd, q⟩, hc, n, hd⟩
theorem Tp.tup (F : Fr h₀ L h m) (N : News h₀ L h news) (k : ∀ p ∈ tl, p ∈ news) {a : Addr} {vs : Array Value} (x : Tp h₀ tl a vs) : IsTup h a vs := by
  rcases x with x | ⟨o, hm, hc, n, hd⟩
  · exact x.keeps F.keep
  · exact ⟨o, (N _ (k _ hm)).1, hc, n, hd⟩
theorem tups_apart (N : News h₀ L h own) (ho : ∀ q ∈ own, tupObj q.2 = false) : ∀ q ∈ own, ∀ p ∈ tups h₀ h, p.1 ≠ q.1 := by
  rintro ⟨b, ob⟩ hq ⟨a, o⟩ hp e
  obtain ⟨h1, h2, _⟩ := mem_tups.mp hp
  have := (N _ hq).1
  cases e
  rw [h1] at this
  cases this
  rw [ho _ hq] at h2
  cases h2
end

/-- what is known of values, by the frozen heap and the ledger's opaque end -/
def Known (h₀ : Heap) (tl : List (Addr × Obj)) (ds : List (Value × PyData)) : Prop := ∀ x ∈ ds, Tv (Tp h₀ tl) x.1 x.2
theorem Known.nil {h₀ : Heap} {tl : List (Addr × Obj)} : Known h₀ tl [] := fun _ h => nomatch h
theorem Known.cons {h₀ : Heap} {tl : List (Addr × Obj)} {ds : List (Value × PyData)} {v : Value} {d : PyData} (x : Tv (Tp h₀ tl) v d) (D : Known h₀ tl ds) : Known h₀ tl ((v, d) :: ds) := fun y hy => by
  rcases List.mem_cons.mp hy with rfl | hy
  · exact x
  · exact D _ hy
theorem Known.head {h₀ : Heap} {tl : List (Addr × Obj)} {ds : List (Value × PyData)} {v : Value} {d : PyData} (D : Known h₀ tl ((v, d) :: ds)) : Tv (Tp h₀ tl) v d := D _ (.head _)
theorem Known.tail {h₀ : Heap} {tl : List (Addr × Obj)} {ds : List (Value × PyData)} {x : Value × PyData} (D : Known h₀ tl (x :: ds)) : Known h₀ tl ds := fun y hy => D y (.tail _ hy)
theorem Known.sub {h₀ : Heap} {tl : List (Addr × Obj)} {ds ds' : List (Value × PyData)} (D : Known h₀ tl ds) (k : ∀ x ∈ ds', x ∈ ds) : Known h₀ tl ds' := fun y hy => D y (k y hy)

/-- the ledger anew behind a step that keeps the heap: what the frame owns, and every tuple that stands -/
theorem snap {h₀ h h' : Heap} {L : Addr} {m : Str → Option Value} {news own tl : List (Addr × Obj)} {ds : List (Value × PyData)} (F : Fr h₀ L h m) (N : News h₀ L h news) (D : Known h₀ tl ds) (kt : ∀ p ∈ tl, p ∈ news) (ko : ∀ p ∈ own, p ∈ news)
    (ho : ∀ q ∈ own, tupObj q.2 = false) (k : Keep h h') : ∃ tl', Fr h₀ L h' m ∧ News h₀ L h' (own ++ tl') ∧ Known h₀ tl' ds ∧ (∀ q ∈ own, ∀ p ∈ tl', p.1 ≠ q.1) ∧ ∀ v d, Tv (IsTup h') v d → Tv (Tp h₀ tl') v d := by
  have F' := Fr.byKeep F k
  have N' := News.byKeep (News.sub N ko) k
  refine ⟨tups h₀ h', F', News.app N' (news_tups F'), fun x hx => ?_, tups_apart N' ho, fun v d x => x.mono fun a vs y => tp_tups F' y⟩
  exact (D x hx).mono fun a vs y => tp_tups F' ((Tp.tup F N kt y).keeps k)
end
/-! Pick -/
section
theorem fillX (P : Params) : PySem.Challenge.rw_rg0120_01 = PySem.Challenge.rw_rg0120_01 ∧ hd.heap_1 P = hd.heap_1 P := by
  k_fill
  exact ⟨rfl, rfl⟩

theorem here {α : Type} {M : Model} {A : Around} {t : Sem α} {Q : α → Shared → Prop} {E : Value → Shared → Prop} {s : Shared} (h : wpAny M A t Q E s) : wpAny M A t Q E s := h
theorem w1 : True := by
  k_with "M k_steps" => (case' FRESH => (repeat' (first | (k_unfold; (try dsimp only)) | (k_end; wrow_close) | ((try ((fail_if_success (fail_if_success (k_fold; (first | (with_reducible show wpAny _ _ (exec _ _) _ _ _) | (with_reducible show wpAny _ _ (isTrue _ _ _) _ _ _) | (with_reducible show wpAny _ _ (eval (PySem.Expr.BinOp _ _ _ _) _) _ _ _) | (with_reducible show wpAny _ _ (eval (PySem.Expr.Tuple _ _ _) _) _ _ _) | (with_reducible show wpAny _ _ (assign _ _ _) _ _ _) | (with_reducible show wpAny _ _ (eval (PySem.Expr.Subscript _ _ _) _) _ _ _) | (with_reducible show wpAny _ _ (eval (PySem.Expr.Call _ _ _ _) _) _ _ _))))); (refine (?_ : let q' : _ → Shared → Prop := _; let e' : Value → Shared → Prop := _; wpAny _ _ _ q' e' _)); intro q' e')); walk1) | (dsimp only; walk1) | (leave1; walk_say "STEP leave1"; try dsimp only) | fail "no step")))
  trivial
end
local macro_rules | `(tactic| obtain $p:rcasesPatMed := $e:term) => `(tactic| first | ((fail_if_success (with_reducible refine here ?_)); (rcases $e:term with $p:rcasesPatMed)) | ((refine hideG fun G' g' => ?_); (rcases $e:term with $p:rcasesPatMed) <;> (refine g' ?_; clear g')))
section
/-- the room that a call has -/
structure Rm (A : Around) (k : Nat) : Prop where
  hh : A.handled = none
  dp : A.depth + k < 900
  un : A.units + 20 * k < 9000
theorem Rm.le {A : Around} {k j : Nat} (r : Rm A k) (h : j ≤ k) : Rm A j := ⟨r.hh, by have := r.dp; omega, by have := r.un; omega⟩
theorem Rm.deeper {A : Around} {k : Nat} {env : Env} (r : Rm A (k + 1)) : Rm (A.deeper env) k := ⟨r.hh, by have := r.dp; simp only [Around.deeper]; omega, by have := r.un; simp only [Around.deeper]; omega⟩
theorem Rm.hhd {A : Around} {k : Nat} {env : Env} (r : Rm A k) : (A.deeper env).handled = none := r.hh
theorem Rm.room {A : Around} {k : Nat} (r : Rm A k) : A.depth < recursionLimit := Nat.lt_of_le_of_lt (Nat.le_add_right _ k) (Nat.lt_of_lt_of_le r.dp (by decide))

abbrev feedKv (r : Addr) (a : Int) (tk : Tok) : List (Str × Value) := [(Str.ofString "row", .ref r), (Str.ofString "at", .int a tk)]
def FeedObj (prog : Program) (w : World) (r : Addr) (a : Int) (o : Obj) : Prop := ∃ tk, o.IsDictOf (strKind prog w) (feedKv r a tk)
theorem FeedObj.noTup {prog : Program} {w : World} {r : Addr} {a : Int} {o : Obj} (x : FeedObj prog w r a o) : tupObj o = false := by
  obtain ⟨tk, es, ep, _, hd, _⟩ := x
  unfold tupObj; rw [hd]; simp
theorem fmod_in {a b : Int} (h : 0 < b) : 0 ≤ a.fmod b ∧ a.fmod b < b := by
  rw [Int.fmod_eq_emod_of_nonneg _ (Int.le_of_lt h)]
  exact ⟨Int.emod_nonneg _ (Int.ne_of_gt h), Int.emod_lt_of_pos _ h⟩

section
variable {prog : Program} {w : World} {A : Around} {s : Shared} {g : Heap} {p : Program} {loose : List Str} {mean : ExcName → Option Value} {mg mb : Str → Option Value}
    {d r : Addr} {o : Obj} {vs : List Value} {ns : List Int} {at' : Int} {E : Value → Shared → Prop} {Q : Value → Shared → Prop}
set_option maxHeartbeats 4000000 in
theorem pick_spec {tm : Tok} {many : Int}
    (X : (hd.heap_1 w.params).In g) (T : Top p loose mean mg mb g) (st : Keep g s.heap) (hd0 : g.get? d = none)
    (hd1 : s.heap.get? d = some o) (hdo : FeedObj prog w r at' o) (hr : s.heap.IsList r vs.toArray) (hi : IntsAre vs ns) (R : Rm A 1)
    (h0 : 0 ≤ at') (h1 : at' < 1000) (hm : 0 < many) (hm' : many < 1000) (hlen : ns.length ≤ 40)
    (h : ∀ k tv h' o' tk', 0 ≤ k → k < many → h'.get? d = some o' → FeedObj prog w r (at' + 1) o' → (∀ b ob, b ≠ d → s.heap.get? b = some ob → h'.get? b = some ob) → Q (.int k tv) { s with heap := h', toks := tk' }) :
    wpAny (model prog w) A (call (.ref 320) [.ref d, .int many tm]) Q E s := by
  obtain ⟨tk, hdo⟩ := hdo
  have hrd : r ≠ d := by
    rintro rfl
    obtain ⟨ol, hol, _, n, hdl⟩ := hr
    rw [hd1] at hol
    cases hol
    obtain ⟨es, ep, _, hd, _⟩ := hdo
    rw [hdl] at hd; cases hd
  refine wpAny_call ?_
  k_dflt (refine' enter1 (binds := [(Str.ofString "feed", .ref d), (Str.ofString "many", .int many tm)]) X T st hd0 hd1 ?ho ?hcd R.room ?hb ?hl ?_ ?c1 ?c2 ?c3 ?c4)
  case ho => k_dflt k_is
  case hcd => k_dflt k_is
  case hb => exact BindsTo.of_eq rfl
  case hl => exact locs rfl
  case c1 => rfl
  case c2 => rfl
  case c3 => rfl
  case c4 => decide
  intro g' L h₁ tk1 kg kg2 kd X' T' F N hlt
  have hr' : g'.IsList r vs.toArray := let ⟨ol, hol, x⟩ := hr; ⟨ol, kd _ _ hrd hol, x⟩
  have hend : ∀ (k : Int) (tv : Tok) (h' : Heap) (m' : Str → Option Value) (o' : Obj) (tk' : Nat), 0 ≤ k ∧ k < many → Fr g' L h' m' → News g' L h' [(d, o')] → FeedObj prog w r (at' + 1) o' → Q (.int k tv) { s with heap := h', toks := tk' } :=
    fun k tv h' m' o' tk' hk F' N' x => h k tv h' o' tk' hk.1 hk.2 (N' _ (.head _)).1 x fun b ob hb e => F'.keep _ _ (kd b ob hb e)
  clear hd1 h hr kg kg2 kd hrd X T st hd0
  refine (?_ : let mM' := _; let aA' := _; wpAny mM' aA' _ _ _ _); intro mM' aA'
  k_fold
  k_steps
  all_goals (refine hend _ _ _ _ _ _ (fmod_in hm) (by assumption) (by assumption) ⟨_, by assumption⟩)
end
end
/-! Term -/
section

/-- a term of the law -/
inductive Tm where
  | leaf (x : Str)
  | un (t : Tm)
  | bin (t u : Tm)
def leafOp (c : Bool) : Str := if c then Str.ofString "b" else Str.ofString "a"
def Tm.py : Tm → PyData
  | .leaf x => .tuple [.str x]
  | .un t => .tuple [.str (Str.ofString "f"), t.py]
  | .bin t u => .tuple [.str (Str.ofString "g"), t.py, u.py]
def Tm.height : Tm → Nat
  | .leaf _ => 0
  | .un t => t.height + 1
  | .bin t u => max t.height u.height + 1

/-- a term of the law's own ops -/
def Tm.Plain : Tm → Prop
  | .leaf x => x = Str.ofString "a" ∨ x = Str.ofString "b"
  | .un t => t.Plain
  | .bin t u => t.Plain ∧ u.Plain
theorem leafOp_plain (c : Bool) : (Tm.leaf (leafOp c)).Plain := by cases c; exact .inl rfl; exact .inr rfl
theorem listKeep {h h' : Heap} {a : Addr} {its : Array Value} (x : h.IsList a its) (k : Keep h h') : h'.IsList a its := let ⟨o, ho, r⟩ := x; ⟨o, k _ _ ho, r⟩

section
variable {prog : Program} {w : World} {A : Around} {s : Shared} {h₀ : Heap} {L : Addr} {m : Str → Option Value} {news : List (Addr × Obj)} {gl : Obj → List (Addr × Obj)} {p : Program} {loose : List Str} {mean : ExcName → Option Value} {mg mb : Str → Option Value}
    {d r : Addr} {o : Obj} {vs : List Value} {ns : List Int} {at' : Int} {E : Value → Shared → Prop} {Q : Value → Shared → Prop}

/-- a store into one object of the ledger, the rest kept -/
theorem upd_news {h' : Heap} {o' : Obj} (F : Fr h₀ L s.heap m) (N : News h₀ L s.heap news) (U : UpdF d o news gl) (ho : h'.get? d = some o') (k : ∀ b ob, b ≠ d → s.heap.get? b = some ob → h'.get? b = some ob) : Fr h₀ L h' m ∧ News h₀ L h' (gl o') := by
  obtain ⟨pre, post, rfl, hg, a, b⟩ := U.split
  have hm := N (d, o) (List.mem_append_right _ (.head _))
  obtain ⟨oL, es, ep, hL, hLr⟩ := F.ns
  refine ⟨⟨⟨oL, es, ep, k _ _ (Ne.symm hm.2.1) hL, hLr⟩, fun c oc e => k _ _ (fun q => by rw [q, hm.2.2] at e; cases e) (F.keep c oc e), F.above⟩, ?_⟩
  rw [hg]
  intro q hq
  rcases List.mem_append.mp hq with hq | hq
  · have P := N q (List.mem_append_left _ hq); exact ⟨k _ _ (a q hq) P.1, P.2⟩
  · rcases List.mem_cons.mp hq with rfl | hq
    · exact ⟨ho, hm.2⟩
    · have P := N q (List.mem_append_right _ (.tail _ hq)); exact ⟨k _ _ (b q hq) P.1, P.2⟩
theorem updF_mem (U : UpdF d o news gl) : (d, o) ∈ news := by
  obtain ⟨pre, post, rfl, _⟩ := U.split
  exact List.mem_append_right _ (.head _)

theorem pick_use {tm : Tok} {many : Int}
    (F : Fr h₀ L s.heap m) (X : (hd.heap_1 w.params).In h₀) (T : Top p loose mean mg mb h₀) (N : News h₀ L s.heap news) (U : UpdF d o news gl) (hdo : FeedObj prog w r at' o) (hr : s.heap.IsList r vs.toArray) (hi : IntsAre vs ns) (R : Rm A 1)
    (h0 : 0 ≤ at') (h1 : at' < 1000) (hm : 0 < many) (hm' : many < 1000) (hlen : ns.length ≤ 40)
    (h : ∀ k tv h' o' tk', 0 ≤ k → k < many → FeedObj prog w r (at' + 1) o' → Fr h₀ L h' m → News h₀ L h' (gl o') → (∀ b ob, b ≠ d → s.heap.get? b = some ob → h'.get? b = some ob) → Q (.int k tv) { s with heap := h', toks := tk' }) :
    wpAny (model prog w) A (call (.ref 320) [.ref d, .int many tm]) Q E s := by
  have hm0 := N _ (updF_mem U)
  refine pick_spec X T F.keep hm0.2.2 hm0.1 hdo hr hi R h0 h1 hm hm' hlen fun k tv h' o' tk' hk1 hk2 ho' hf' kb => ?_
  obtain ⟨F', N'⟩ := upd_news F N U ho' kb
  exact h k tv h' o' tk' hk1 hk2 hf' F' N' kb
theorem w2 : True := by
  k_with "M k_all" => ((fail_if_success (have := endOfTerm)); case' FRESH => (assumption))
  trivial
theorem w3 : True := by
  k_with "M call ref" => ((fail_if_success (have := endOfTerm)); case' FRESH => ((k_here; (with_reducible show wpAny _ _ (call (Value.ref 320) _ _) _ _ _); k_dflt (refine' pick_use ?F ?X ?T ?N ?U ?hdo ?hr ?hi ?R ?h0 ?h1 ?hm ?hm' ?hlen ?_; (case F => k_asm); (case X => k_asm); (case T => k_asm); (case N => k_asm); (case U => k_updF); (case hdo => assumption); (case hr => exact listKeep (by assumption) (Fr.keep (by k_asm))); (case hi => k_asm); (case R => exact Rm.le (Rm.deeper (by assumption)) (by omega)); (case h0 => omega); (case h1 => omega); (case hm => decide); (case hm' => decide); (case hlen => assumption); k_whole); intro k' tv' h' o' tk' hk1' hk2' hf' F' N' _; (try dsimp only at N'))))
  trivial


def cost : Nat → Nat
  | 0 => 1
  | n + 1 => 2 * cost n + 1
def TermC (prog : Program) (w : World) (p : Program) (loose : List Str) (mean : ExcName → Option Value) (mg mb : Str → Option Value) (d r : Addr) (vs : List Value) (ns : List Int) (n : Nat) : Prop :=
  ∀ (A : Around) (s : Shared) (g : Heap) (o : Obj) (at' : Int) (tm : Tok) (E : Value → Shared → Prop) (Q : Value → Shared → Prop),
    (hd.heap_1 w.params).In g → Top p loose mean mg mb g → Keep g s.heap → g.get? d = none →
    s.heap.get? d = some o → FeedObj prog w r at' o → s.heap.IsList r vs.toArray → IntsAre vs ns → Rm A (n + 2) →
    0 ≤ at' → at' + (cost n : Nat) < 1000 → ns.length ≤ 40 →
    (∀ t v h' o' tk' at2, t.Plain → t.height ≤ n → at' ≤ at2 → at2 ≤ at' + (cost n : Nat) → h'.get? d = some o' → FeedObj prog w r at2 o' → (∀ b ob, b ≠ d → s.heap.get? b = some ob → h'.get? b = some ob) → Tv (IsTup h') v (Tm.py t) → Q v { s with heap := h', toks := tk' }) →
    wpAny (model prog w) A (call (.ref 327) [.ref d, .int n tm]) Q E s

theorem term_use {n : Nat} {fl : Int} {tm : Tok} (C : TermC prog w p loose mean mg mb d r vs ns n)
    (F : Fr h₀ L s.heap m) (X : (hd.heap_1 w.params).In h₀) (T : Top p loose mean mg mb h₀) (N : News h₀ L s.heap news) (U : UpdF d o news gl) (hdo : FeedObj prog w r at' o) (hr : s.heap.IsList r vs.toArray) (hi : IntsAre vs ns) (R : Rm A (n + 2))
    (h0 : 0 ≤ at') (h1 : at' + (cost n : Nat) < 1000) (hlen : ns.length ≤ 40) (hfl : fl = n)
    (h : ∀ t v h' o' tk' at2 tl, t.Plain → t.height ≤ n → at' ≤ at2 → at2 ≤ at' + (cost n : Nat) → FeedObj prog w r at2 o' → Fr h₀ L h' m → News h₀ L h' (gl o' ++ tl) → (∀ q ∈ tl, q.1 ≠ d) → AllTup tl → Tv (Tp h₀ tl) v (Tm.py t) → Q v { s with heap := h', toks := tk' }) :
    wpAny (model prog w) A (call (.ref 327) [.ref d, .int fl tm]) Q E s := by
  subst hfl
  have hm0 := N _ (updF_mem U)
  refine C _ _ _ _ _ _ _ _ X T F.keep hm0.2.2 hm0.1 hdo hr hi R h0 h1 hlen fun t v h' o' tk' at2 hpl ht h3 h4 ho' hf' kb hv => ?_
  obtain ⟨F', N'⟩ := upd_news F N U ho' kb
  have N1 : News h₀ L h' [(d, o')] := fun q hq => by rw [List.mem_singleton.mp hq]; exact ⟨ho', hm0.2⟩
  exact h t v h' o' tk' at2 (tups h₀ h') hpl ht h3 h4 hf' F' (News.app N' (news_tups F')) (tups_apart N1 (fun q hq => by rw [List.mem_singleton.mp hq]; exact hf'.noTup) _ (.head _)) (allTup_tups _ _) (hv.mono fun a vs y => tp_tups F' y)
theorem w4 : True := by
  k_with "M k_handed" => ((fail_if_success (have := endOfTerm)); case' FRESH => (exact Tv.handed (by assumption)))
  trivial
theorem w5 : True := by
  k_with "M call ref" => ((fail_if_success (have := endOfTerm)); case' FRESH => ((k_here; (with_reducible show wpAny _ _ (call (Value.ref 327) _ _) _ _ _); k_dflt (refine' term_use ?C ?F ?X ?T ?N ?U ?hdo ?hr ?hi ?R ?h0 ?h1 ?hlen ?hfl ?_; (case C => assumption); (case F => k_asm); (case X => k_asm); (case T => k_asm); (case N => k_asm); (case U => k_updF); (case hdo => assumption); (case hr => exact listKeep (by assumption) (Fr.keep (by k_asm))); (case hi => k_asm); (case R => exact Rm.le (Rm.deeper (by assumption)) (by omega)); (case h0 => omega); (case h1 => omega); (case hlen => assumption); (case hfl => omega); k_whole); intro t' v' h' o' tk' at2' tl' hpl' ht' ha' hb' hf' F' N' hq' hA' hv'; (try dsimp only at N'); (try simp only [List.cons_append, List.nil_append] at N'))))
  trivial

theorem item_ab {k : Int} (h0 : 0 ≤ k) (h2 : k < 2) : ∃ c, Txt.item (Str.ofString "ab") k = leafOp c := by
  have : k = 0 ∨ k = 1 := by omega
  rcases this with rfl | rfl
  · exact ⟨false, by decide +kernel⟩
  · exact ⟨true, by decide +kernel⟩
theorem apart_feed {h : Heap} (hd1 : h.get? d = some o) (hdo : FeedObj prog w r at' o) (hr : h.IsList r vs.toArray) : r ≠ d := by
  rintro rfl
  obtain ⟨ol, hol, _, n, hdl⟩ := hr
  rw [hd1] at hol
  cases hol
  obtain ⟨_, es, ep, _, hd, _⟩ := hdo
  rw [hdl] at hd; cases hd
/-- the ends of _law_term -/
theorem leaf_end {h : Heap} {k : Int} {D : Addr} {tk : Tok} (N : News h₀ L h news) (hm : (D, ({ cls := .type "tuple", data := .seq #[.str (Txt.item (Str.ofString "ab") k) tk] } : Obj)) ∈ news) (h0 : 0 ≤ k) (h2 : k < 2) :
    ∃ t : Tm, t.Plain ∧ t.height = 0 ∧ Tv (IsTup h) (.ref D) t.py := by
  obtain ⟨c, hc⟩ := item_ab h0 h2
  refine ⟨.leaf (leafOp c), leafOp_plain c, rfl, ?_⟩
  rw [hc] at hm
  exact .one ⟨_, (N _ hm).1, rfl, _, rfl⟩ (.str _ _)
theorem un_end {h : Heap} {D : Addr} {tk : Tok} {tl : List (Addr × Obj)} {v : Value} {t : Tm} (F : Fr h₀ L h m) (N : News h₀ L h news) (hm : (D, ({ cls := .type "tuple", data := .seq #[.str (Str.ofString "f") tk, v] } : Obj)) ∈ news) (hv : Tv (Tp h₀ tl) v t.py) (k : ∀ p ∈ tl, p ∈ news) :
    Tv (IsTup h) (.ref D) (Tm.un t).py := .two ⟨_, (N _ hm).1, rfl, _, rfl⟩ (.str _ _) (hv.mono fun a vs y => Tp.tup F N k y)
theorem bin_end {h : Heap} {D : Addr} {tk : Tok} {tl tl' : List (Addr × Obj)} {v v' : Value} {t t' : Tm} (F : Fr h₀ L h m) (N : News h₀ L h news) (hm : (D, ({ cls := .type "tuple", data := .seq #[.str (Str.ofString "g") tk, v, v'] } : Obj)) ∈ news) (hv : Tv (Tp h₀ tl) v t.py) (k : ∀ p ∈ tl, p ∈ news)
    (hv' : Tv (Tp h₀ tl') v' t'.py) (k' : ∀ p ∈ tl', p ∈ news) :
    Tv (IsTup h) (.ref D) (Tm.bin t t').py := .three ⟨_, (N _ hm).1, rfl, _, rfl⟩ (.str _ _) (hv.mono fun a vs y => Tp.tup F N k y) (hv'.mono fun a vs y => Tp.tup F N k' y)

set_option maxHeartbeats 4000000 in
theorem term_zero : TermC prog w p loose mean mg mb d r vs ns 0 := by
  intro A s g o at' tm E Q X T st hd0 hd1 hdo hr hi R h0 h1 hlen h
  have hrd := apart_feed hd1 hdo hr
  refine wpAny_call ?_
  k_dflt (refine' enter1 (binds := [(Str.ofString "feed", .ref d), (Str.ofString "floors", .int 0 tm)]) X T st hd0 hd1 ?ho ?hcd R.room ?hb ?hl ?_ ?c1 ?c2 ?c3 ?c4)
  case ho => k_dflt k_is
  case hcd => k_dflt k_is
  case hb => exact BindsTo.of_eq rfl
  case hl => exact locs rfl
  case c1 => rfl
  case c2 => rfl
  case c3 => rfl
  case c4 => decide
  intro g' L h₁ tk1 kg kg2 kd X' T' F N hlt
  have hr' : g'.IsList r vs.toArray := let ⟨ol, hol, x⟩ := hr; ⟨ol, kd _ _ hrd hol, x⟩
  have h1' : at' + 1 < 1000 := by simpa [cost] using h1
  refine (?_ : let mM' := _; let aA' := _; wpAny mM' aA' _ _ _ _); intro mM' aA'
  clear hd1 hr kg kg2 hrd X T st hd0 h1
  k_fold
  k_steps
  rename Fr _ _ _ _ => F9
  rename News _ _ _ _ => N9
  obtain ⟨t, hpl, ht, hv⟩ := leaf_end N9 (.head _) (by assumption) (by assumption)
  exact h t _ _ _ _ (at' + 1) hpl (by omega) (by omega) (by simp [cost]) (N9 _ (.tail _ (.head _))).1 (by assumption) (fun b ob hb e => F9.keep _ _ (kd b ob hb e)) hv
set_option maxHeartbeats 4000000 in
theorem term_succ {n : Nat} (ih : TermC prog w p loose mean mg mb d r vs ns n) : TermC prog w p loose mean mg mb d r vs ns (n + 1) := by
  intro A s g o at' tm E Q X T st hd0 hd1 hdo hr hi R h0 h1 hlen h
  have hrd := apart_feed hd1 hdo hr
  refine wpAny_call ?_
  k_dflt (refine' enter1 (binds := [(Str.ofString "feed", .ref d), (Str.ofString "floors", .int ((n + 1 : Nat) : Int) tm)]) X T st hd0 hd1 ?ho ?hcd R.room ?hb ?hl ?_ ?c1 ?c2 ?c3 ?c4)
  case ho => k_dflt k_is
  case hcd => k_dflt k_is
  case hb => exact BindsTo.of_eq rfl
  case hl => exact locs rfl
  case c1 => rfl
  case c2 => rfl
  case c3 => rfl
  case c4 => decide
  intro g' L h₁ tk1 kg kg2 kd X' T' F N hlt
  have hr' : g'.IsList r vs.toArray := let ⟨ol, hol, x⟩ := hr; ⟨ol, kd _ _ hrd hol, x⟩
  have hc : cost (n + 1) = 2 * cost n + 1 := rfl
  rw [hc] at h1 h
  refine (?_ : let mM' := _; let aA' := _; wpAny mM' aA' _ _ _ _); intro mM' aA'
  clear hd1 hr kg kg2 hrd X T st hd0 hc
  k_fold
  k_steps
  · rename Fr _ _ _ _ => F9
    rename News _ _ _ _ => N9
    obtain ⟨t, hpl, ht, hv⟩ := leaf_end N9 (.head _) (by assumption) (by assumption)
    exact h t _ _ _ _ (at' + 1) hpl (by omega) (by omega) (by omega) (N9 _ (.tail _ (.head _))).1 (by assumption) (fun b ob hb e => F9.keep _ _ (kd b ob hb e)) hv
  · rename Fr _ _ _ _ => F9
    rename News _ _ _ _ => N9
    rename Tv _ _ _ => hv
    refine h (.un _) _ _ _ _ _ ?pl ?_ ?_ ?_ (N9 _ (.tail _ (.head _))).1 (by assumption) (fun b ob hb e => F9.keep _ _ (kd b ob hb e)) (un_end F9 N9 (.head _) hv (fun q hq => .tail _ (.tail _ hq)))
    case pl => assumption
    all_goals (first | omega | (simp only [Tm.height]; omega))
  · rename Fr _ _ _ _ => F9
    rename News _ _ _ _ => N9
    refine h (.bin _ _) _ _ _ _ _ ?pl ?_ ?_ ?_ (N9 _ (.tail _ (.head _))).1 (by assumption) (fun b ob hb e => F9.keep _ _ (kd b ob hb e)) (bin_end F9 N9 (.head _) (by assumption) (by exact fun q hq => .tail _ (.tail _ (List.mem_append_left _ hq))) (by assumption) (by exact fun q hq => .tail _ (.tail _ (List.mem_append_right _ hq))))
    case pl => exact ⟨by assumption, by assumption⟩
    all_goals (first | omega | (simp only [Tm.height]; omega))
theorem term_all : ∀ n, TermC prog w p loose mean mg mb d r vs ns n
  | 0 => term_zero
  | n + 1 => term_succ (term_all n)
end
end
theorem endOfTerm : True := trivial
/-! TupSlice -/
section
def tsel (n : Nat) (lo hi st : Option Int) : Int × Int × Nat :=
  ((Builtin.Slice.sliceAdjust lo hi (st.getD 1) n).1, st.getD 1, Builtin.Slice.slicePlaces (Builtin.Slice.sliceAdjust lo hi (st.getD 1) n).1 (Builtin.Slice.sliceAdjust lo hi (st.getD 1) n).2 (st.getD 1))
def tslice (items : Array Value) (lo hi st : Option Int) : List Value :=
  (List.range (tsel items.size lo hi st).2.2).filterMap fun (k : Nat) => items[((tsel items.size lo hi st).1 + (k : Int) * (tsel items.size lo hi st).2.1).toNat]?
def twhole (n : Nat) (lo hi st : Option Int) : Bool := (tsel n lo hi st).1 == 0 && (tsel n lo hi st).2.1 == 1 && (tsel n lo hi st).2.2 == n

section
variable {prog : Program} {w : World} {A : Around} {E : Value → Shared → Prop} {s : Shared} {h₀ : Heap} {L : Addr} {m : Str → Option Value} {news : List (Addr × Obj)}
theorem partIndex {v : Value} {o : Option Int} {Q : Option Int → Shared → Prop} (p : IsPart v o) (h : Q o s) : wpAny (model prog w) A (Builtin.Slice.slicePartIndex v) Q E s := by
  cases p with
  | none => exact slicePart_none h
  | int i t => exact slicePart_int h
theorem sliceApplied_gen {sl : Addr} {n : Nat} {vl vu vk : Value} {lo hi st : Option Int} {Q : Int × Int × Nat → Shared → Prop} (hs : s.heap.IsSliceOf sl vl vu vk) (pl : IsPart vl lo) (pu : IsPart vu hi) (pk : IsPart vk st) (h0 : (st.getD 1 == 0) = false)
    (h : Q (tsel n lo hi st) s) : wpAny (model prog w) A (Builtin.Slice.sliceApplied (.ref sl) (pure (n : Int))) Q E s := by
  obtain ⟨os, hos, hcs, hds⟩ := id hs
  unfold Builtin.Slice.sliceApplied Builtin.Slice.sliceFields
  refine wpAny_bind (wpAny_bind (wpAny_field hos hds (x := vl) rfl (wpAny_bind (wpAny_field hos hds (x := vu) rfl (wpAny_bind (wpAny_field hos hds (x := vk) rfl (wpAny_pure ?_)))))))
  refine wpAny_bind (partIndex pk ?_)
  show wpAny _ _ (if (st.getD 1 == 0) = true then _ else _) _ _ s
  rw [if_neg (by rw [h0]; exact Bool.false_ne_true)]
  refine wpAny_bind (partIndex pl (wpAny_bind (partIndex pu (wpAny_bind (wpAny_pure ?_)))))
  exact wpAny_pure h
theorem getItem_tup_slice {t sl : Addr} {items : Array Value} {vl vu vk : Value} {lo hi st : Option Int} {Q : Value → Shared → Prop} (ht : IsTup s.heap t items) (hs : s.heap.IsSliceOf sl vl vu vk) (pl : IsPart vl lo) (pu : IsPart vu hi) (pk : IsPart vk st) (h0 : (st.getD 1 == 0) = false)
    (h1 : twhole items.size lo hi st = true → Q (.ref t) s)
    (h2 : twhole items.size lo hi st = false → Q (.ref s.heap.objs.size) { s with heap := s.heap.push { cls := .type "tuple", data := .seq (tslice items lo hi st).toArray } })
    (hsz : (tslice items lo hi st).length ≤ sizeLine) : wpAny (model prog w) A (getItem (.ref t) (.ref sl)) Q E s := by
  have hdrop : sizeOk (.seq (tslice items lo hi st).toArray) := by
    show (tslice items lo hi st).toArray.size ≤ sizeLine
    rw [List.size_toArray]
    exact hsz
  obtain ⟨os, hos, hcs, hds⟩ := id hs
  have hTs : s.TypeIs (.ref sl) "slice" := ⟨os, hos, hcs⟩
  unfold getItem
  refine wpAny_holding ?_
  refine wpAny_bind (wpAny_sequenceKey ht.typeIs (by decide) ?_)
  refine wpAny_bind (wpAny_callSpecial?_slot (name := Str.ofString "__getitem__") ht.typeIs slot_tuple_getitem
    (wpAny_call_entry slot_tuple_getitem ht.typeIs entry_tuple_getitem ?_ (args_tuple_getitem _ _)))
  show wpAny _ _ (Builtin.Tuple.tupleItemsOf (.ref t) >>= _) _ _ s
  refine wpAny_bind (tupleItemsOf_ ht ?_)
  refine wpAny_bind (wpAny_typeOf hTs ?_)
  rw [if_pos (by decide)]
  refine wpAny_bind (sliceApplied_gen hs pl pu pk h0 ?_)
  show wpAny _ _ (if twhole items.size lo hi st = true then _ else _) _ _ s
  cases hw : twhole items.size lo hi st with
  | true =>
    rw [if_pos rfl]
    refine wpAny_bind (m := Builtin.Tuple.tupleIsExact (.ref t)) ?_
    unfold Builtin.Tuple.tupleIsExact
    refine wpAny_bind (wpAny_typeOf ht.typeIs (wpAny_pure ?_))
    rw [if_pos (by decide)]
    exact wpAny_bind (wpAny_rule (wpAny_bind (wpAny_pure (wpAny_pure ⟨_, rfl, wpAny_pure (h1 hw)⟩))))
  | false =>
    rw [if_neg Bool.false_ne_true]
    first
      | exact wpAny_bind (m := Builtin.Tuple.tupleExact _) (wpAny_newObj_type (wpAny_pure ⟨_, rfl, wpAny_pure (h2 hw)⟩) hdrop)
      | exact wpAny_bind (m := Builtin.Tuple.tupleExact _) (wpAny_newObj_type (wpAny_bind (wpAny_pure (wpAny_pure ⟨_, rfl, wpAny_pure (h2 hw)⟩))) hdrop)
      | exact wpAny_bind (wpAny_bind (m := Builtin.Tuple.tupleExact _) (wpAny_newObj_type (wpAny_pure (wpAny_pure ⟨_, rfl, wpAny_pure (h2 hw)⟩)) hdrop))
      | exact wpAny_bind (wpAny_bind (m := Builtin.Tuple.tupleExact _) (wpAny_newObj_type (wpAny_pure ⟨_, rfl, wpAny_pure (h2 hw)⟩) hdrop))
/-- a slice of a tuple: a new one -/
theorem tup_slice {value slice : Expr} {t : Addr} {items : Array Value} {vl vu vk : Value} {lo hi st : Option Int} {out : List Value} {Q : Value → Shared → Prop}
    (F : Fr h₀ L s.heap m) (N : News h₀ L s.heap news) (ht : IsTup s.heap t items) (pl : IsPart vl lo) (pu : IsPart vu hi) (pk : IsPart vk st) (h0 : (st.getD 1 == 0) = false)
    (hw : twhole items.size lo hi st = false) (e : tslice items lo hi st = out) (hz : out.length ≤ sizeLine)
    (h : ∀ D h', Fr h₀ L h' m → News h₀ L h' ((D, { cls := .type "tuple", data := .seq out.toArray }) :: news) → (∀ p ∈ news, p.1 < D) → Q (.ref D) { s with heap := h' })
    (hs : subscripted slice false (.ref t) (.ref s.heap.objs.size) = operate [.ref s.heap.objs.size, .ref t] (getItem (.ref t) (.ref s.heap.objs.size)))
    (hg : ∀ r, letTemporaryGo value (.ref t) r = pure ()) :
    wpAny (model prog w) A (subscriptTail value slice (.ref t) (.ref s.heap.objs.size)) Q E { s with heap := s.heap.push { cls := .type "slice", data := .fields #[vl, vu, vk] } } := by
  subst e
  have ht' : IsTup (s.heap.push { cls := .type "slice", data := .fields #[vl, vu, vk] }) t items := ht.keeps fun _ _ e => Heap.get?_push_of_some _ e
  refine subscriptTail_ops (s := { s with heap := s.heap.push { cls := .type "slice", data := .fields #[vl, vu, vk] } }) ht'.typeIs slot_tuple_getitem.lookup
    (getItem_tup_slice ht' (Heap.IsSliceOf.new ..) pl pu pk h0 (fun q => by rw [hw] at q; cases q) (fun _ => ?_) hz) hs hg
  have N1 := News.push (F.push { cls := .type "slice", data := .fields #[vl, vu, vk] }) (N.grown fun _ _ e => Heap.get?_push_of_some _ e) { cls := .type "tuple", data := .seq (tslice items lo hi st).toArray }
  exact h _ _ ((F.push _).push _) N1 fun p hp => by
    have := Heap.lt_size (N p hp).1
    rw [Heap.size_push]; exact Nat.lt_succ_of_lt this
/-- a slice of a tuple: the tuple itself -/
theorem tup_slice_whole {value slice : Expr} {t : Addr} {items : Array Value} {vl vu vk : Value} {lo hi st : Option Int} {Q : Value → Shared → Prop}
    (F : Fr h₀ L s.heap m) (N : News h₀ L s.heap news) (ht : IsTup s.heap t items) (pl : IsPart vl lo) (pu : IsPart vu hi) (pk : IsPart vk st) (h0 : (st.getD 1 == 0) = false)
    (hw : twhole items.size lo hi st = true) (hz : (tslice items lo hi st).length ≤ sizeLine)
    (h : ∀ h', Fr h₀ L h' m → News h₀ L h' news → Keep s.heap h' → Q (.ref t) { s with heap := h' })
    (hs : subscripted slice false (.ref t) (.ref s.heap.objs.size) = operate [.ref s.heap.objs.size, .ref t] (getItem (.ref t) (.ref s.heap.objs.size)))
    (hg : ∀ r, letTemporaryGo value (.ref t) r = pure ()) :
    wpAny (model prog w) A (subscriptTail value slice (.ref t) (.ref s.heap.objs.size)) Q E { s with heap := s.heap.push { cls := .type "slice", data := .fields #[vl, vu, vk] } } := by
  have ht' : IsTup (s.heap.push { cls := .type "slice", data := .fields #[vl, vu, vk] }) t items := ht.keeps fun _ _ e => Heap.get?_push_of_some _ e
  refine subscriptTail_ops (s := { s with heap := s.heap.push { cls := .type "slice", data := .fields #[vl, vu, vk] } }) ht'.typeIs slot_tuple_getitem.lookup
    (getItem_tup_slice ht' (Heap.IsSliceOf.new ..) pl pu pk h0 (fun _ => ?_) (fun q => by rw [hw] at q; cases q) hz) hs hg
  exact h _ (F.push _) (N.grown fun _ _ e => Heap.get?_push_of_some _ e) (fun _ _ e => Heap.get?_push_of_some _ e)
end

def tsl (n : Nat) (l : List Value) (lo hi st : Option Int) : List Value :=
  (List.range (tsel n lo hi st).2.2).filterMap fun (k : Nat) => l[((tsel n lo hi st).1 + (k : Int) * (tsel n lo hi st).2.1).toNat]?
theorem tslice_tsl {items : Array Value} {n : Nat} {l : List Value} {lo hi st : Option Int} (hl : items = l.toArray) (hn : l.length = n) : tslice items lo hi st = tsl n l lo hi st := by
  subst hl hn
  unfold tslice tsl
  simp
section
variable {prog : Program} {w : World} {A : Around} {E : Value → Shared → Prop} {s : Shared} {h₀ : Heap} {L : Addr} {m : Str → Option Value} {news : List (Addr × Obj)}
theorem tup_sliceN (n : Nat) {value slice : Expr} {t : Addr} {l : List Value} {vl vu vk : Value} {lo hi st : Option Int} {out : List Value} {Q : Value → Shared → Prop}
    (F : Fr h₀ L s.heap m) (N : News h₀ L s.heap news) (ht : IsTup s.heap t l.toArray) (hn : l.length = n) (pl : IsPart vl lo) (pu : IsPart vu hi) (pk : IsPart vk st) (h0 : (st.getD 1 == 0) = false)
    (hw : twhole n lo hi st = false) (e : tsl n l lo hi st = out) (hz : out.length ≤ sizeLine)
    (h : ∀ D h', Fr h₀ L h' m → News h₀ L h' ((D, { cls := .type "tuple", data := .seq out.toArray }) :: news) → (∀ p ∈ news, p.1 < D) → Q (.ref D) { s with heap := h' })
    (hs : subscripted slice false (.ref t) (.ref s.heap.objs.size) = operate [.ref s.heap.objs.size, .ref t] (getItem (.ref t) (.ref s.heap.objs.size)))
    (hg : ∀ r, letTemporaryGo value (.ref t) r = pure ()) :
    wpAny (model prog w) A (subscriptTail value slice (.ref t) (.ref s.heap.objs.size)) Q E { s with heap := s.heap.push { cls := .type "slice", data := .fields #[vl, vu, vk] } } :=
  tup_slice F N ht pl pu pk h0 (by rw [List.size_toArray, hn]; exact hw) ((tslice_tsl rfl hn).trans e) hz h hs hg
theorem tup_wholeN (n : Nat) {value slice : Expr} {t : Addr} {l : List Value} {vl vu vk : Value} {lo hi st : Option Int} {Q : Value → Shared → Prop}
    (F : Fr h₀ L s.heap m) (N : News h₀ L s.heap news) (ht : IsTup s.heap t l.toArray) (hn : l.length = n) (pl : IsPart vl lo) (pu : IsPart vu hi) (pk : IsPart vk st) (h0 : (st.getD 1 == 0) = false)
    (hw : twhole n lo hi st = true) (hz : (tsl n l lo hi st).length ≤ sizeLine)
    (h : ∀ h', Fr h₀ L h' m → News h₀ L h' news → Keep s.heap h' → Q (.ref t) { s with heap := h' })
    (hs : subscripted slice false (.ref t) (.ref s.heap.objs.size) = operate [.ref s.heap.objs.size, .ref t] (getItem (.ref t) (.ref s.heap.objs.size)))
    (hg : ∀ r, letTemporaryGo value (.ref t) r = pure ()) :
    wpAny (model prog w) A (subscriptTail value slice (.ref t) (.ref s.heap.objs.size)) Q E { s with heap := s.heap.push { cls := .type "slice", data := .fields #[vl, vu, vk] } } :=
  tup_slice_whole F N ht pl pu pk h0 (by rw [List.size_toArray, hn]; exact hw) (by rw [tslice_tsl rfl hn]; exact hz) h hs hg
end
end
/-! Loops -/
section
def But (wr : List Addr) (h h' : Heap) : Prop := ∀ b o, b ∉ wr → h.get? b = some o → h'.get? b = some o

/-- a source of a for: what it hands out, turn by turn -/
structure Src (prog : Program) (w : World) (A : Around) (target : Expr) (I : Addr) (fp wr : List Addr) (n : Nat) (P : Nat → Value → Heap → Heap → Prop) (St : Nat → Heap → Prop) : Prop where
  frame : ∀ i h h', St i h → (∀ b ∈ fp, ∀ o, h.get? b = some o → h'.get? b = some o) → St i h'
  step : ∀ i (s : Shared) (Z : Shared → Prop) (Q : Value → Shared → Prop) (E : Value → Shared → Prop), i < n → St i s.heap →
    (∀ v h' tk', P i v s.heap h' → St (i + 1) h' → But wr s.heap h' → Q v { s with heap := h', toks := tk' }) →
    wpAny (model prog w) A (pyNext (.ref I)) (fun r s₁ => match r with
      | none => Z s₁
      | some v => wpAny (model prog w) A (letOwnedTupleGo target (.ref I) v) (fun _ s₂ => Q v s₂) E s₁) E s
  done : ∀ (s : Shared) (Q : Option Value → Shared → Prop) (E : Value → Shared → Prop), St n s.heap →
    (∀ h' tk', But wr s.heap h' → Q none { s with heap := h', toks := tk' }) → wpAny (model prog w) A (pyNext (.ref I)) Q E s

section
variable {prog : Program} {w : World} {A : Around} {target : Expr} {I : Addr} {fp wr : List Addr} {n : Nat} {St : Nat → Heap → Prop}
theorem Src.ofWalks {P : Nat → Value → Prop} (W : Walks prog w A I fp wr n P St)
    (hgo : ∀ i (s : Shared) v (Q : Unit → Shared → Prop) (E : Value → Shared → Prop), St i s.heap → Q () s → wpAny (model prog w) A (letOwnedTupleGo target (.ref I) v) Q E s) :
    Src prog w A target I fp wr n (fun i v _ _ => P i v) St where
  frame := W.frame
  step := fun i s Z Q E hi st h => W.item i s _ E hi st fun v h' tk' hp st' hk => hgo (i + 1) _ v _ E st' (h v h' tk' hp st' hk)
  done := fun s Q E st h => W.done s Q E st fun h' tk' hk => h h' tk' hk
theorem Src.ofWalksT {elts : List Expr} {k : Nat} {pos : Pos} {Pt : Nat → Array Value → Prop} {Mid : Nat → Addr → Heap → Prop} (W : WalksT prog w A I fp wr n Pt St Mid) :
    Src prog w A (.Tuple elts k pos) I fp wr n (fun i v h h' => ∃ T vals, v = .ref T ∧ Pt i vals ∧ h.objs.size ≤ T ∧ IsTup h' T vals) St where
  frame := W.frame
  step := fun i s Z Q E hi st h => W.item i s _ E hi st fun T vals h' tk' hp hT hIT hmid hk => W.go elts k pos i T _ _ E hmid fun h'' st' hk' =>
    h (.ref T) h'' tk' ⟨T, vals, rfl, hp, hT, let ⟨o, ho, r⟩ := hIT; ⟨o, hk' _ _ (W.apart _ _ _ hmid) ho, r⟩⟩ st' fun b o hb e => hk' b o hb (hk b o hb e)
  done := fun s Q E st h => W.done s Q E st fun h' tk' hk => h h' tk' hk
end

def TurnG (K : Shared → Prop) (Q : Flow → Shared → Prop) (f : Flow) (s : Shared) : Prop := match f with
  | .ret v => Q (.ret v) s
  | .brk => Q .next s
  | _ => K s

inductive LoopG (prog : Program) (w : World) (A : Around) (env : Env) (target : Expr) (body : List Stmt) (Q : Flow → Shared → Prop) (E : Value → Shared → Prop) (it : Value) (s₂ : Shared) : Prop
  | mk (I : Addr) (fp wr : List Addr) (n : Nat) (P : Nat → Value → Heap → Heap → Prop) (St : Nat → Heap → Prop) (J : Nat → Shared → Prop)
    (e : it = .ref I) (S : Src prog w A target I fp wr n P St) (h0 : St 0 s₂.heap) (j0 : J 0 s₂)
    (turn : ∀ i s₁ v h' tk', i < n → J i s₁ → P i v s₁.heap h' → St (i + 1) h' → But wr s₁.heap h' →
      wpAny (model prog w) A (assign target env v) (fun _ s₃ => wpAny (model prog w) A (execs body env) (TurnG (fun s₄ => St (i + 1) s₄.heap ∧ J (i + 1) s₄) Q) E s₃) E { s₁ with heap := h', toks := tk' })
    (done : ∀ s₁ h' tk', J n s₁ → But wr s₁.heap h' → Q .next { s₁ with heap := h', toks := tk' }) : LoopG prog w A env target body Q E it s₂

section
variable {prog : Program} {w : World} {A : Around} {E : Value → Shared → Prop} {s : Shared} {env : Env} {target iter : Expr} {body : List Stmt} {Q : Flow → Shared → Prop} {pos : Pos}

theorem for_code {R : Result → Shared → Prop} {I : Addr} {fp wr : List Addr} {n : Nat} {P : Nat → Value → Heap → Heap → Prop} {St : Nat → Heap → Prop} (S : Src prog w A target I fp wr n P St) (J : Nat → Shared → Prop) (h0 : St 0 s.heap) (j0 : J 0 s)
    (turn : ∀ i s₁ v h' tk', i < n → J i s₁ → P i v s₁.heap h' → St (i + 1) h' → But wr s₁.heap h' →
      wpAny (model prog w) A (assign target env v) (fun _ s₃ => wpAny (model prog w) A (execs body env) (TurnG (fun s₄ => St (i + 1) s₄.heap ∧ J (i + 1) s₄) fun f s' => R (.ok f) s') (notedBy (model prog w) A env fun e s' => R (.error e) s') s₃) (notedBy (model prog w) A env fun e s' => R (.error e) s') { s₁ with heap := h', toks := tk' })
    (done : ∀ s₁ h' tk', J n s₁ → But wr s₁.heap h' → R (.ok .next) { s₁ with heap := h', toks := tk' }) :
    codeAny (model prog w) A (.forLoop target (.ref I) body [] env) R s := by
  refine codeAny_loop' rfl (fun k s' => ∃ i, i ≤ n ∧ k = n - i ∧ St i s'.heap ∧ J i s') (fun k s' hI => ?_) n ⟨0, Nat.zero_le _, rfl, h0, j0⟩
  obtain ⟨i, hi, hk, st, j⟩ := hI
  show wpAny _ _ ((forTurn target (.ref I) body [] env).onRaise (fun x => do noteFrame x env; theTreesLotGoes x)) _ _ s'
  refine wpAny_noted ?_
  simp only [forTurn]
  refine wpAny_bind (wpAny_standAt (wpAny_bind (wpAny_onRaise ?_)))
  rcases Nat.lt_or_eq_of_le hi with hlt | rfl
  · refine wpAny_mono (S.step i s' (fun _ => False) (fun v s₂ => wpAny (model prog w) A (assign target env v) (fun _ s₃ => wpAny (model prog w) A (execs body env) (TurnG (fun s₄ => St (i + 1) s₄.heap ∧ J (i + 1) s₄) fun f s' => R (.ok f) s') (notedBy (model prog w) A env fun e s' => R (.error e) s') s₃) (notedBy (model prog w) A env fun e s' => R (.error e) s') s₂) _ hlt st (fun v h' tk' hp st' kb => turn i s' v h' tk' hlt j hp st' kb)) (fun r s₁ h₁ => ?_) fun _ _ h' => wpAny_standAt h'
    cases r with
    | none => exact h₁.elim
    | some v =>
      refine wpAny_bind (wpAny_mono h₁ (fun _ s₂ h₂ => ?_) fun _ _ h' => h')
      refine wpAny_bind (wpAny_mono h₂ (fun _ s₃ h₃ => wpAny_bind (wpAny_mono h₃ (fun f s₄ h₄ => ?_) fun _ _ h' => h')) fun _ _ h' => h')
      cases f with
      | next => exact wpAny_pure (.inl ⟨rfl, n - (i + 1), by omega, i + 1, hlt, rfl, h₄⟩)
      | cont => exact wpAny_pure (.inl ⟨rfl, n - (i + 1), by omega, i + 1, hlt, rfl, h₄⟩)
      | brk => exact wpAny_pure h₄
      | ret v => exact wpAny_pure h₄
  · refine S.done s' _ _ st (fun h' tk' kb => ?_)
    refine wpAny_pure (.inr ⟨rfl, codeAny_block ?_⟩)
    exact wpAny_pure (done s' h' tk' j kb)

theorem for_gen (h : wpAny (model prog w) A (eval iter env) (fun xv s₁ => wpAny (model prog w) A (pyIter xv) (fun it s₂ => LoopG prog w A env target body Q E it s₂) E s₁) E s)
    (hs : ∀ x, foldedSetIterable iter env x = pure x) (hE : PassesOwn (model prog w) A env E) :
    wpAny (model prog w) A (exec (.For target iter body [] pos) env) Q E s := by
  refine wpAny_For (wpAny_mono h (fun xv s₁ h₁ => wpAny_mono h₁ (fun it s₂ h₂ => ?_) fun _ _ e => e) fun _ _ e => e) hs
  obtain ⟨I, fp, wr, n, P, St, J, rfl, S, h0, j0, turn, done⟩ := h₂
  refine for_code (R := fun r s' => match r with | .ok f => Q f s' | .error e => cameBackBy (model prog w) A env E e s') S J h0 j0 (fun i s₁ v h' tk' hi j hp st kb => ?_) done
  exact wpAny_passesOwn hE (wpAny_mono (turn i s₁ v h' tk' hi j hp st kb) (fun _ s₃ h₃ => wpAny_passesOwn hE (wpAny_mono h₃ (fun f s₄ h₄ => by cases f <;> exact h₄) fun _ _ e => e)) fun _ _ e => e)
end

/-! the opaque end of a ledger: tuples alone -/
theorem apart_tups {h₀ h : Heap} {L d : Addr} {o : Obj} {news tl : List (Addr × Obj)} (N : News h₀ L h news) (hd : (d, o) ∈ news) (ht : ∀ p ∈ tl, p ∈ news) (ha : AllTup tl) (ho : tupObj o = false) : ∀ p ∈ tl, p.1 ≠ d := by
  rintro ⟨a, oa⟩ hp rfl
  have h1 := (N _ hd).1
  have h2 := (N _ (ht _ hp)).1
  rw [h1] at h2
  cases h2
  have := ha _ hp
  rw [ho] at this
  cases this

inductive Drop (q : Addr × Obj) : List (Addr × Obj) → List (Addr × Obj) → Prop
  | here {r} : Drop q (q :: r) r
  | there {p r r'} : Drop q r r' → Drop q (p :: r) (p :: r')
theorem Drop.mem {q : Addr × Obj} {l l' : List (Addr × Obj)} (D : Drop q l l') : q ∈ l ∧ ∀ p ∈ l', p ∈ l := by
  induction D with
  | here => exact ⟨.head _, fun p hp => .tail _ hp⟩
  | there _ ih => exact ⟨.tail _ ih.1, fun p hp => by rcases List.mem_cons.mp hp with rfl | hp; exact .head _; exact .tail _ (ih.2 p hp)⟩

/-- a ledger's written part and its end of tuples -/
inductive Sp : List (Addr × Obj) → List (Addr × Obj) → List (Addr × Obj) → Prop
  | base {tl} : AllTup tl → Sp [] tl tl
  | cons {x own tl l} : Sp own tl l → Sp (x :: own) tl (x :: l)
theorem Sp.eq {own tl l : List (Addr × Obj)} (x : Sp own tl l) : l = own ++ tl ∧ AllTup tl := by
  induction x with
  | base h => exact ⟨rfl, h⟩
  | cons _ ih => exact ⟨by rw [ih.1]; rfl, ih.2⟩
theorem Tp.grow {h₀ : Heap} {tl tl' : List (Addr × Obj)} (k : ∀ p ∈ tl, p ∈ tl') {a : Addr} {vs : Array Value} (x : Tp h₀ tl a vs) : Tp h₀ tl' a vs := x.elim .inl fun ⟨o, hm, r⟩ => .inr ⟨o, k _ hm, r⟩

/-! a for over a written tuple or list, turn by turn -/
inductive UEnd (h₀ : Heap) (L : Addr) (s : Shared) (I : Addr) (oI : Obj) (kt : Heap → Prop) (K : (Str → Option Value) → List (Addr × Obj) → Prop) (s₄ : Shared) : Prop
  | mk (h' : Heap) (tk : Nat) (m' : Str → Option Value) (news' : List (Addr × Obj)) (e : s₄ = { s with heap := h', toks := tk }) (F : Fr h₀ L h' m') (N : News h₀ L h' news') (hI : h'.get? I = some oI) (hn : ∀ p ∈ news', p.1 ≠ I) (k : kt h') (r : K m' news') : UEnd h₀ L s I oI kt K s₄
theorem UEnd.intro {h₀ h' : Heap} {L I : Addr} {s : Shared} {oI : Obj} {kt : Heap → Prop} {K : (Str → Option Value) → List (Addr × Obj) → Prop} {m' : Str → Option Value} {l news' : List (Addr × Obj)} {tk : Nat}
    (F : Fr h₀ L h' m') (N : News h₀ L h' l) (D : Drop (I, oI) l news') (hn : ∀ p ∈ news', p.1 ≠ I) (ht : kt h') (k : K m' news') : UEnd h₀ L s I oI kt K { s with heap := h', toks := tk } :=
  ⟨h', tk, m', news', rfl, F, fun p hp => N p (D.mem.2 p hp), (N _ D.mem.1).1, hn, ht, k⟩

/-- what stands between two turns of a for -/
inductive RInv (h₀ : Heap) (L : Addr) (st : Shared → Prop) (off : List (Addr × Obj) → Prop) (kt : Heap → Prop) (K : (Str → Option Value) → List (Addr × Obj) → Prop) (s' : Shared) : Prop
  | mk (hs : st s') (k : kt s'.heap) (m : Str → Option Value) (news : List (Addr × Obj)) (F : Fr h₀ L s'.heap m) (N : News h₀ L s'.heap news) (hn : off news) (r : K m news) : RInv h₀ L st off kt K s'
theorem UEnd.mono {h₀ : Heap} {L I : Addr} {s s₄ : Shared} {oI : Obj} {kt : Heap → Prop} {K K' : (Str → Option Value) → List (Addr × Obj) → Prop} (x : UEnd h₀ L s I oI kt K s₄) (k : ∀ m n, K m n → K' m n) : UEnd h₀ L s I oI kt K' s₄ := by
  cases x with
  | mk h' tk m' news' e F N hI hn kk r => exact ⟨h', tk, m', news', e, F, N, hI, hn, kk, k _ _ r⟩
def Rest (prog : Program) (w : World) (A : Around) (h₀ : Heap) (env : Env) (target : Expr) (body : List Stmt) (Q : Flow → Shared → Prop) (E : Value → Shared → Prop) (s : Shared) (I : Addr) (kt : Heap → Prop) : List Value → (Str → Option Value) → List (Addr × Obj) → Prop
  | [], m, news => ∀ h tk, Fr h₀ env.locals h m → News h₀ env.locals h news → Q .next { s with heap := h, toks := tk }
  | v :: r, m, news => ∀ oI h tk, tupObj oI = false → Fr h₀ env.locals h m → News h₀ env.locals h ((I, oI) :: news) →
      wpAny (model prog w) A (assign target env v) (fun _ s₃ => wpAny (model prog w) A (execs body env) (TurnG (UEnd h₀ env.locals s I oI kt (Rest prog w A h₀ env target body Q E s I kt r)) Q) E s₃) E { s with heap := h, toks := tk }

section
variable {prog : Program} {w : World} {A : Around} {E : Value → Shared → Prop} {s : Shared} {env : Env} {h₀ : Heap} {target : Expr} {body : List Stmt} {Q : Flow → Shared → Prop} {m : Str → Option Value} {news : List (Addr × Obj)} {I t : Addr} {kt : Heap → Prop}
theorem Rest.zero (h : ∀ h tk, Fr h₀ env.locals h m → News h₀ env.locals h news → Q .next { s with heap := h, toks := tk }) : Rest prog w A h₀ env target body Q E s I kt [] m news := h
theorem Rest.succ {v : Value} {r : List Value} (h : ∀ oI h tk, tupObj oI = false → Fr h₀ env.locals h m → News h₀ env.locals h ((I, oI) :: news) →
      wpAny (model prog w) A (assign target env v) (fun _ s₃ => wpAny (model prog w) A (execs body env) (TurnG (UEnd h₀ env.locals s I oI kt (Rest prog w A h₀ env target body Q E s I kt r)) Q) E s₃) E { s with heap := h, toks := tk }) :
    Rest prog w A h₀ env target body Q E s I kt (v :: r) m news := h

/-- a source whose state stands in its own object and in what kt keeps -/
theorem iter_rest {vs : List Value} {St : Nat → Heap → Prop} {P : Nat → Value → Heap → Heap → Prop} {fp : List Addr} {s₂ : Shared}
    (S : Src prog w A target I fp [I] vs.length P St) (hP : ∀ i v h h', P i v h h' → vs[i]? = some v)
    (hfp : ∀ h h', kt h → kt h' → ∀ oI, h.get? I = some oI → h'.get? I = some oI → ∀ i, St i h → St i h') (hkt : ∀ h h', But [I] h h' → kt h → kt h')
    (hI : ∀ i h, St i h → ∃ oI, h.get? I = some oI ∧ tupObj oI = false)
    (hs : ∃ h tk, s₂ = { s with heap := h, toks := tk }) (h0 : St 0 s₂.heap) (k0 : kt s₂.heap)
    (F : Fr h₀ env.locals s₂.heap m) (N : News h₀ env.locals s₂.heap news) (hL : I ≠ env.locals) (hIn : h₀.get? I = none) (hn : ∀ p ∈ news, p.1 ≠ I)
    (rest : Rest prog w A h₀ env target body Q E s I kt vs m news) : LoopG prog w A env target body Q E (.ref I) s₂ := by
  refine ⟨I, fp, [I], vs.length, P, St, fun i => RInv h₀ env.locals (fun s' => ∃ h tk, s' = { s with heap := h, toks := tk }) (fun news => ∀ p ∈ news, p.1 ≠ I) kt (Rest prog w A h₀ env target body Q E s I kt (vs.drop i)),
    rfl, S, h0, ⟨hs, k0, m, news, F, N, hn, by rw [List.drop_zero]; exact rest⟩, ?_, ?_⟩
  · intro i s₁ v h' tk' hi hx hp st kb
    refine hideG fun G' g' => ?_
    rcases hx with ⟨⟨h, tk, e1⟩, kh, m, news, F, N, hn, rest⟩
    refine g' ?_
    clear g'
    subst e1
    have hv := hP i v _ _ hp
    have hdrop : vs.drop i = v :: vs.drop (i + 1) := by
      rw [List.drop_eq_getElem_cons hi]
      congr 1
      exact Option.some.inj ((List.getElem?_eq_getElem hi).symm.trans hv)
    rw [hdrop] at rest
    obtain ⟨oI, hoI, htI⟩ := hI _ _ st
    have kh' := hkt _ _ kb kh
    have F' : Fr h₀ env.locals h' m := by
      obtain ⟨oL, es, ep, hoL, hr⟩ := F.ns
      exact ⟨⟨oL, es, ep, kb _ _ (fun q => hL (List.mem_singleton.mp q).symm) hoL, hr⟩, fun b o e => kb b o (fun q => by rw [List.mem_singleton.mp q, hIn] at e; cases e) (F.keep b o e), F.above⟩
    have N' : News h₀ env.locals h' ((I, oI) :: news) := fun p hp => by
      rcases List.mem_cons.mp hp with rfl | hp
      · exact ⟨hoI, hL, hIn⟩
      · exact ⟨kb _ _ (fun q => hn p hp (List.mem_singleton.mp q)) (N p hp).1, (N p hp).2⟩
    refine wpAny_mono (rest oI h' tk' htI F' N') (fun _ s₃ h₃ => wpAny_mono h₃ (fun f s₄ h₄ => ?_) fun _ _ e => e) fun _ _ e => e
    have fin : UEnd h₀ env.locals s I oI kt (Rest prog w A h₀ env target body Q E s I kt (vs.drop (i + 1))) s₄ → St (i + 1) s₄.heap ∧ RInv h₀ env.locals (fun s' => ∃ h tk, s' = { s with heap := h, toks := tk }) (fun news => ∀ p ∈ news, p.1 ≠ I) kt (Rest prog w A h₀ env target body Q E s I kt (vs.drop (i + 1))) s₄ := by
      intro hx
      refine hideG fun G' g' => ?_
      rcases hx with ⟨h'', tk'', m', news', e1, F'', N'', hI', hn', k', r⟩
      refine g' ?_
      clear g'
      subst e1
      exact ⟨hfp _ _ kh' k' oI hoI hI' _ st, ⟨_, _, rfl⟩, k', m', news', F'', N'', hn', r⟩
    cases f with
    | ret v => exact h₄
    | brk => exact h₄
    | next => exact fin h₄
    | cont => exact fin h₄
  · intro s₁ h' tk' hx kb
    refine hideG fun G' g' => ?_
    rcases hx with ⟨⟨h, tk, e1⟩, kh, m, news, F, N, hn, rest⟩
    refine g' ?_
    clear g'
    subst e1
    rw [List.drop_length] at rest
    obtain ⟨oL, es, ep, hoL, hr⟩ := F.ns
    exact rest h' tk' ⟨⟨oL, es, ep, kb _ _ (fun q => hL (List.mem_singleton.mp q).symm) hoL, hr⟩, fun b o e => kb b o (fun q => by rw [List.mem_singleton.mp q, hIn] at e; cases e) (F.keep b o e), F.above⟩
      fun p hp => ⟨kb _ _ (fun q => hn p hp (List.mem_singleton.mp q)) (N p hp).1, (N p hp).2⟩

theorem iter_tup {vs : List Value} (hh : A.handled = none) (F : Fr h₀ env.locals s.heap m) (N : News h₀ env.locals s.heap news) (hT : IsTup s.heap t vs.toArray)
    (rest : ∀ I : Addr, (∀ p ∈ news, p.1 < I) → Rest prog w A h₀ env target body Q E s I (fun h => IsTup h t vs.toArray) vs m news) :
    wpAny (model prog w) A (pyIter (.ref t)) (fun it s₂ => LoopG prog w A env target body Q E it s₂) E s := by
  have hlt : t < s.heap.objs.size := by obtain ⟨o, ho, _⟩ := hT; exact Heap.lt_size ho
  have up : ∀ (h h' : Heap), (∀ o, h.get? t = some o → h'.get? t = some o) → IsTup h t vs.toArray → IsTup h' t vs.toArray := fun h h' k x => by obtain ⟨o, ho, r⟩ := x; exact ⟨o, k _ ho, r⟩
  refine wpAny_pyIter_tuple hT ?_
  have W := Walks.tuple (prog := prog) (w := w) hh s.heap.objs.size t (Nat.ne_of_lt hlt) vs.toArray
  have S := Src.ofWalks (target := target) W fun i s' v Q' E' st hq => letGo_tupleiter st.1 hq
  have e : vs.toArray.size = vs.length := List.size_toArray ..
  rw [e] at S
  have T1 := up _ _ (fun o e => Heap.get?_push_of_some { cls := .type "tuple_iterator", data := .fields #[.ref t, .int 0 0] } e) hT
  refine iter_rest S (fun i v _ _ h => by simpa using h) (fun h h' k1 k2 oI h1 h2 i st => ⟨?_, k2⟩) (fun h h' kb k => up _ _ (fun o e => kb _ _ (fun q => Nat.ne_of_lt hlt (List.mem_singleton.mp q)) e) k)
    (fun i h st => ?_) ⟨_, _, rfl⟩ ⟨⟨_, Heap.get?_push_size _ rfl, rfl, rfl⟩, T1⟩ T1 (F.push _) (fun p hp => ⟨Heap.get?_push_of_some _ (N p hp).1, (N p hp).2⟩)
    (Nat.ne_of_gt F.ns.lt) (PyProof.Rows.Fr.fresh F) (fun p hp => Nat.ne_of_lt (Heap.lt_size (N p hp).1)) (rest _ fun p hp => Heap.lt_size (N p hp).1)
  · obtain ⟨o', ho', hr⟩ := st.1
    rw [h1] at ho'
    cases ho'
    exact ⟨_, h2, hr⟩
  · obtain ⟨o', ho', hc', hd'⟩ := st.1
    exact ⟨o', ho', by unfold tupObj; rw [hd']; simp⟩
theorem iter_lst {vs : List Value} (hh : A.handled = none) (F : Fr h₀ env.locals s.heap m) (N : News h₀ env.locals s.heap news) (hT : s.heap.IsList t vs.toArray)
    (rest : ∀ I : Addr, (∀ p ∈ news, p.1 < I) → Rest prog w A h₀ env target body Q E s I (fun h => h.IsList t vs.toArray) vs m news) :
    wpAny (model prog w) A (pyIter (.ref t)) (fun it s₂ => LoopG prog w A env target body Q E it s₂) E s := by
  have hlt : t < s.heap.objs.size := by obtain ⟨o, ho, _⟩ := hT; exact Heap.lt_size ho
  have up : ∀ (h h' : Heap), (∀ o, h.get? t = some o → h'.get? t = some o) → h.IsList t vs.toArray → h'.IsList t vs.toArray := fun h h' k x => by obtain ⟨o, ho, r⟩ := x; exact ⟨o, k _ ho, r⟩
  refine wpAny_pyIter_list hT ?_
  have W := Walks.list (prog := prog) (w := w) hh s.heap.objs.size t (Nat.ne_of_lt hlt) vs.toArray
  have S := Src.ofWalks (target := target) W fun i s' v Q' E' st hq => letGo_listiter st.1 hq
  have e : vs.toArray.size = vs.length := List.size_toArray ..
  rw [e] at S
  have T1 := up _ _ (fun o e => Heap.get?_push_of_some { cls := .type "list_iterator", data := .fields #[.ref t, .int 0 0] } e) hT
  refine iter_rest S (fun i v _ _ h => by simpa using h) (fun h h' k1 k2 oI h1 h2 i st => ⟨?_, k2⟩) (fun h h' kb k => up _ _ (fun o e => kb _ _ (fun q => Nat.ne_of_lt hlt (List.mem_singleton.mp q)) e) k)
    (fun i h st => ?_) ⟨_, _, rfl⟩ ⟨⟨_, Heap.get?_push_size _ rfl, rfl, rfl⟩, T1⟩ T1 (F.push _) (fun p hp => ⟨Heap.get?_push_of_some _ (N p hp).1, (N p hp).2⟩)
    (Nat.ne_of_gt F.ns.lt) (PyProof.Rows.Fr.fresh F) (fun p hp => Nat.ne_of_lt (Heap.lt_size (N p hp).1)) (rest _ fun p hp => Heap.lt_size (N p hp).1)
  · obtain ⟨o', ho', hr⟩ := st.1
    rw [h1] at ho'
    cases ho'
    exact ⟨_, h2, hr⟩
  · obtain ⟨o', ho', hc', hd'⟩ := st.1
    exact ⟨o', ho', by unfold tupObj; rw [hd']; simp⟩
end

/-- reading and keeping the opaque end -/
theorem News.at {h₀ h : Heap} {L a : Addr} {o : Obj} {news : List (Addr × Obj)} (N : News h₀ L h news) (k : (a, o) ∈ news) : h.get? a = some o := (N _ k).1
theorem nil_sub {α} {l : List α} : ∀ p ∈ ([] : List α), p ∈ l := fun _ h => nomatch h
theorem FeedObj.tupObj {prog : Program} {w : World} {r : Addr} {a : Int} {o : Obj} (x : FeedObj prog w r a o) : tupObj o = false := x.noTup
theorem tupObj_list {vs n} : tupObj (listOf vs n) = false := by unfold tupObj PySem.W.listOf; simp
theorem tupObj_lst {ys : List Value} {n : Nat} : tupObj { cls := .type "list", data := .seq ys.toArray n } = false := by unfold tupObj; simp
theorem tupObj_cell {o : Obj} {v : Option Value} (h : o.data = .cell v) : tupObj o = false := by unfold tupObj; rw [h]; simp
theorem for_all_app {α} {P : α → Prop} {a b : List α} (x : ∀ p ∈ a, P p) (y : ∀ p ∈ b, P p) : ∀ p ∈ a ++ b, P p := fun p hp => (List.mem_append.mp hp).elim (x p) (y p)
theorem sub_tail {α} {l l' : List α} {x : α} (h : ∀ p ∈ l, p ∈ l') : ∀ p ∈ l, p ∈ x :: l' := fun p hp => .tail _ (h p hp)
theorem sub_left {α} {a b : List α} : ∀ p ∈ a, p ∈ a ++ b := fun _ hp => List.mem_append_left _ hp
theorem sub_right {α} {l a b : List α} (h : ∀ p ∈ l, p ∈ b) : ∀ p ∈ l, p ∈ a ++ b := fun p hp => List.mem_append_right _ (h p hp)
theorem sub_left2 {α} {l a b : List α} (h : ∀ p ∈ l, p ∈ a) : ∀ p ∈ l, p ∈ a ++ b := fun p hp => List.mem_append_left _ (h p hp)
theorem sub_trans {α} {l l' l'' : List α} (h : ∀ p ∈ l, p ∈ l') (h' : ∀ p ∈ l', p ∈ l'') : ∀ p ∈ l, p ∈ l'' := fun p hp => h' p (h p hp)
theorem sub_self {α} {l : List α} : ∀ p ∈ l, p ∈ l := fun _ hp => hp
theorem Fr.tupP {h₀ h : Heap} {L : Addr} {m : Str → Option Value} {news tl : List (Addr × Obj)} {a : Addr} {vs : Array Value} (x : Tp h₀ tl a vs) (F : Fr h₀ L h m) (N : News h₀ L h news) (k : ∀ p ∈ tl, p ∈ news) : IsTup h a vs := Tp.tup F N k x
def NeA (a b : Nat) : Prop := a ≠ b
theorem NeA.of {a b : Nat} (h : a ≠ b) : NeA a b := h
theorem NeA.l {a b : Nat} (h : NeA a b) : a ≠ b := h
theorem NeA.r {a b : Nat} (h : NeA b a) : a ≠ b := Ne.symm h
def AllNe (d : Nat) : List (Addr × Obj) → Prop
  | [] => True
  | p :: r => NeA p.1 d ∧ AllNe d r
theorem allNe_of {d : Addr} : ∀ {l : List (Addr × Obj)}, (∀ p ∈ l, p.1 ≠ d) → AllNe d l
  | [], _ => trivial
  | p :: _, h => ⟨h p (.head _), allNe_of fun q hq => h q (.tail _ hq)⟩
theorem at_ne {l : List (Addr × Obj)} {a d : Nat} {o : Obj} (h : ∀ p ∈ l, p.1 ≠ d) (m : (a, o) ∈ l) : a ≠ d := h _ m
theorem at_ne' {l : List (Addr × Obj)} {a d : Nat} {o : Obj} (h : ∀ p ∈ l, p.1 ≠ d) (m : (a, o) ∈ l) : d ≠ a := fun e => h _ m e.symm
theorem ne_upd {l l' : List (Addr × Obj)} {d : Addr} (h : ∀ p ∈ l, p.1 ≠ d) (e : l'.map Prod.fst = l.map Prod.fst) : ∀ p ∈ l', p.1 ≠ d := fun p hp => by
  have : p.1 ∈ l.map Prod.fst := e ▸ List.mem_map.mpr ⟨p, hp, rfl⟩
  obtain ⟨q, hq, hqp⟩ := List.mem_map.mp this
  exact hqp ▸ h q hq
theorem cons_ne {I a : Addr} {oI : Obj} {nw : List (Addr × Obj)} (h : I ≠ a) (k : ∀ q ∈ nw, q.1 ≠ a) : ∀ q ∈ (I, oI) :: nw, q.1 ≠ a := fun q hq => by
  rcases List.mem_cons.mp hq with rfl | hq
  · exact h
  · exact k q hq
theorem cons_sub {x : Addr × Obj} {l l' : List (Addr × Obj)} (h : x ∈ l') (k : ∀ q ∈ l, q ∈ l') : ∀ q ∈ x :: l, q ∈ l' := fun q hq => by
  rcases List.mem_cons.mp hq with rfl | hq
  · exact h
  · exact k q hq
theorem ne_sub {l l' : List (Addr × Obj)} {d : Addr} (h : ∀ p ∈ l, p.1 ≠ d) (k : ∀ p ∈ l', p ∈ l) : ∀ p ∈ l', p.1 ≠ d := fun p hp => h p (k p hp)
theorem lt_sub {l l' : List (Addr × Obj)} {d : Addr} (h : ∀ p ∈ l, p.1 < d) (k : ∀ p ∈ l', p ∈ l) : ∀ p ∈ l', p.1 ≠ d := fun p hp => Nat.ne_of_lt (h p (k p hp))
theorem at_lt {l : List (Addr × Obj)} {a d : Addr} {o : Obj} (h : ∀ p ∈ l, p.1 < d) (m : (a, o) ∈ l) : @Ne Nat a d := Nat.ne_of_lt (h _ m)
theorem at_lt' {l : List (Addr × Obj)} {a d : Addr} {o : Obj} (h : ∀ p ∈ l, p.1 < d) (m : (a, o) ∈ l) : @Ne Nat d a := Nat.ne_of_gt (h _ m)
theorem lt_upd {l l' : List (Addr × Obj)} {d : Addr} (h : ∀ p ∈ l, p.1 < d) (e : l'.map Prod.fst = l.map Prod.fst) : ∀ p ∈ l', p.1 ≠ d := ne_upd (fun p hp => Nat.ne_of_lt (h p hp)) e
end
local macro_rules | `(tactic| k_lt $_h:ident) => `(tactic| skip)
section
theorem w6 : True := by
  k_with "M k_ne" => (case' FRESH => ((refine neN ?_; (try dsimp only); first | exact NeA.l (by assumption) | exact NeA.r (by assumption) | (refine at_lt (o := ?o) (by assumption) ?m; (case m => k_mem)) | (refine at_lt' (o := ?o) (by assumption) ?m; (case m => k_mem)) | (refine at_ne (o := ?o) (by assumption) ?m; (case m => k_mem)) | (refine at_ne' (o := ?o) (by assumption) ?m; (case m => k_mem)))))
  trivial
theorem w7 : True := by
  k_with "M k_all" => (case' FRESH => (first
  | assumption
  | (with_reducible exact Drop.here)
  | ((with_reducible refine' AllTup.append ?a ?b); (case a => k_all); (case b => k_all))
  | ((with_reducible refine' Sp.base ?b); (case b => first | assumption | (refine' AllTup.append ?a ?b; (case a => k_all); (case b => k_all))))
  | ((with_reducible refine' Sp.cons ?b); (case b => k_all))
  | ((with_reducible refine' Drop.there ?b); (case b => k_all))
  | exact List.forall_mem_nil _
  | (with_reducible exact sub_self)
  | (with_reducible exact sub_left)
  | ((with_reducible refine sub_tail ?_); k_all)
  | ((with_reducible refine sub_right ?_); k_all)
  | ((with_reducible refine sub_left2 ?_); k_all)
  | exact ne_upd (by assumption) rfl
  | exact lt_upd (by assumption) rfl
  | ((with_reducible refine' cons_ne ?a ?b); (case a => k_ne); (case b => k_all))
  | ((with_reducible refine' cons_sub ?a ?b); (case a => k_mem); (case b => k_all))
  | (refine' List.forall_mem_cons.mpr ⟨?a, ?b⟩; (case a => first | k_ne | k_mem); (case b => k_all))
  | ((with_reducible refine' for_all_app ?a ?b); (case a => k_all); (case b => k_all))
  | (refine lt_sub (by assumption) ?_; k_all)
  | (refine ne_sub (by assumption) ?_; k_all)
  | (rename News _ _ _ _ => nA'; exact apart_tups nA' (by k_mem) (by k_all) (by assumption) (by first | assumption | exact FeedObj.noTup (by assumption) | exact tupObj_list | exact tupObj_lst | exact tupObj_cell (by assumption) | rfl))
  | ((with_reducible refine' sub_trans ?x2 ?x1); (case x1 => with_reducible assumption); (case x2 => k_all))))
  trivial
theorem w8 : True := by
  k_with "M kun_tup" => (case' FRESH => ((first | (with_reducible assumption) | exact Fr.tup (by k_asm) (by assumption) | exact Fr.tupP (by assumption) (by k_asm) (by k_asm) (by k_all) | exact News.isTup (by k_asm) (by k_mem))))
  trivial
theorem w9 : True := by
  k_with "M k_handed" => (case' FRESH => (exact Tv.handed (by assumption)))
  trivial
theorem w10 : True := by
  k_with "M subscriptTail" => (case' FRESH => ((k_here; (with_reducible show wpAny _ _ (subscriptTail _ _ (Value.ref _) (Value.int _ _)) _ _ _); k_dflt (refine' item_tupleT ?k1 ?k2 ?k3 ?k4 ?k5 ?_ ?k6; (case k1 => first | exact Fr.tup (by k_asm) (by assumption) | exact Fr.tupP (by assumption) (by k_asm) (by k_asm) (by k_all)); (case k2 => decide); (case k3 => decide); (case k4 => rfl); (case k5 => rfl); (case k6 => with_unfolding_all rfl); k_whole))))
  trivial
theorem w11 : True := by
  k_with "M subscriptTail Name Slice ref ref" => (case' FRESH => ((k_here; (with_reducible show wpAny _ _ (subscriptTail _ (PySem.Expr.Slice _ _ _ _) (Value.ref _) (Value.ref _)) _ _ _); k_dflt (refine' tup_wholeN 5 ?F ?N ?t ?n ?p ?q ?k ?z0 ?w ?z ?_ ?s ?g; (case F => k_asm); (case N => k_asm); (case t => first | exact Fr.tup (by k_asm) (by assumption) | exact Fr.tupP (by assumption) (by k_asm) (by k_asm) (by k_all) | exact News.isTup (by k_asm) (by k_mem)); (case n => exact rfl); (case p => kmk_part); (case q => kmk_part); (case k => kmk_part); (case z0 => exact rfl); (case w => exact rfl); (case z => exact Nat.le_of_ble_eq_true rfl); (case s => with_unfolding_all rfl); (case g => kmk_pure)); intro h' F' N' _; (try k_sweep))))
  trivial
theorem w12 : True := by
  k_with "M subscriptTail Name Slice ref ref" => (case' FRESH => ((k_here; (with_reducible show wpAny _ _ (subscriptTail _ (PySem.Expr.Slice _ _ _ _) (Value.ref _) (Value.ref _)) _ _ _); k_dflt (refine' tup_sliceN 5 ?F ?N ?t ?n ?p ?q ?k ?z0 ?w ?e ?z ?_ ?s ?g; (case F => k_asm); (case N => k_asm); (case t => first | exact Fr.tup (by k_asm) (by assumption) | exact Fr.tupP (by assumption) (by k_asm) (by k_asm) (by k_all) | exact News.isTup (by k_asm) (by k_mem)); (case n => exact rfl); (case p => kmk_part); (case q => kmk_part); (case k => kmk_part); (case z0 => exact rfl); (case w => exact rfl); (case e => kl_lit); (case z => exact Nat.le_of_ble_eq_true rfl); (case s => with_unfolding_all rfl); (case g => kmk_pure)); intro D' h' F' N' l1; (try k_lt l1); (try k_sweep))))
  trivial
theorem w13 : True := by
  k_with "M subscriptTail Name Slice ref ref" => (case' FRESH => ((k_here; (with_reducible show wpAny _ _ (subscriptTail _ (PySem.Expr.Slice _ _ _ _) (Value.ref _) (Value.ref _)) _ _ _); k_dflt (refine' tup_wholeN 0 ?F ?N ?t ?n ?p ?q ?k ?z0 ?w ?z ?_ ?s ?g; (case F => k_asm); (case N => k_asm); (case t => first | exact Fr.tup (by k_asm) (by assumption) | exact Fr.tupP (by assumption) (by k_asm) (by k_asm) (by k_all) | exact News.isTup (by k_asm) (by k_mem)); (case n => exact rfl); (case p => kmk_part); (case q => kmk_part); (case k => kmk_part); (case z0 => exact rfl); (case w => exact rfl); (case z => exact Nat.le_of_ble_eq_true rfl); (case s => with_unfolding_all rfl); (case g => kmk_pure)); intro h' F' N' _; (try k_sweep))))
  trivial
theorem w14 : True := by
  k_with "M subscriptTail Name Slice ref ref" => (case' FRESH => ((k_here; (with_reducible show wpAny _ _ (subscriptTail _ (PySem.Expr.Slice _ _ _ _) (Value.ref _) (Value.ref _)) _ _ _); k_dflt (refine' tup_sliceN 0 ?F ?N ?t ?n ?p ?q ?k ?z0 ?w ?e ?z ?_ ?s ?g; (case F => k_asm); (case N => k_asm); (case t => first | exact Fr.tup (by k_asm) (by assumption) | exact Fr.tupP (by assumption) (by k_asm) (by k_asm) (by k_all) | exact News.isTup (by k_asm) (by k_mem)); (case n => exact rfl); (case p => kmk_part); (case q => kmk_part); (case k => kmk_part); (case z0 => exact rfl); (case w => exact rfl); (case e => kl_lit); (case z => exact Nat.le_of_ble_eq_true rfl); (case s => with_unfolding_all rfl); (case g => kmk_pure)); intro D' h' F' N' l1; (try k_lt l1); (try k_sweep))))
  trivial
theorem w15 : True := by
  k_with "M subscriptTail Name Slice ref ref" => (case' FRESH => ((k_here; (with_reducible show wpAny _ _ (subscriptTail _ (PySem.Expr.Slice _ _ _ _) (Value.ref _) (Value.ref _)) _ _ _); k_dflt (refine' tup_wholeN 1 ?F ?N ?t ?n ?p ?q ?k ?z0 ?w ?z ?_ ?s ?g; (case F => k_asm); (case N => k_asm); (case t => first | exact Fr.tup (by k_asm) (by assumption) | exact Fr.tupP (by assumption) (by k_asm) (by k_asm) (by k_all) | exact News.isTup (by k_asm) (by k_mem)); (case n => exact rfl); (case p => kmk_part); (case q => kmk_part); (case k => kmk_part); (case z0 => exact rfl); (case w => exact rfl); (case z => exact Nat.le_of_ble_eq_true rfl); (case s => with_unfolding_all rfl); (case g => kmk_pure)); intro h' F' N' _; (try k_sweep))))
  trivial
theorem w16 : True := by
  k_with "M subscriptTail Name Slice ref ref" => (case' FRESH => ((k_here; (with_reducible show wpAny _ _ (subscriptTail _ (PySem.Expr.Slice _ _ _ _) (Value.ref _) (Value.ref _)) _ _ _); k_dflt (refine' tup_sliceN 1 ?F ?N ?t ?n ?p ?q ?k ?z0 ?w ?e ?z ?_ ?s ?g; (case F => k_asm); (case N => k_asm); (case t => first | exact Fr.tup (by k_asm) (by assumption) | exact Fr.tupP (by assumption) (by k_asm) (by k_asm) (by k_all) | exact News.isTup (by k_asm) (by k_mem)); (case n => exact rfl); (case p => kmk_part); (case q => kmk_part); (case k => kmk_part); (case z0 => exact rfl); (case w => exact rfl); (case e => kl_lit); (case z => exact Nat.le_of_ble_eq_true rfl); (case s => with_unfolding_all rfl); (case g => kmk_pure)); intro D' h' F' N' l1; (try k_lt l1); (try k_sweep))))
  trivial
theorem w17 : True := by
  k_with "M subscriptTail Name Slice ref ref" => (case' FRESH => ((k_here; (with_reducible show wpAny _ _ (subscriptTail _ (PySem.Expr.Slice _ _ _ _) (Value.ref _) (Value.ref _)) _ _ _); k_dflt (refine' tup_wholeN 3 ?F ?N ?t ?n ?p ?q ?k ?z0 ?w ?z ?_ ?s ?g; (case F => k_asm); (case N => k_asm); (case t => first | exact Fr.tup (by k_asm) (by assumption) | exact Fr.tupP (by assumption) (by k_asm) (by k_asm) (by k_all) | exact News.isTup (by k_asm) (by k_mem)); (case n => exact rfl); (case p => kmk_part); (case q => kmk_part); (case k => kmk_part); (case z0 => exact rfl); (case w => exact rfl); (case z => exact Nat.le_of_ble_eq_true rfl); (case s => with_unfolding_all rfl); (case g => kmk_pure)); intro h' F' N' _; (try k_sweep))))
  trivial
theorem w18 : True := by
  k_with "M subscriptTail Name Slice ref ref" => (case' FRESH => ((k_here; (with_reducible show wpAny _ _ (subscriptTail _ (PySem.Expr.Slice _ _ _ _) (Value.ref _) (Value.ref _)) _ _ _); k_dflt (refine' tup_sliceN 3 ?F ?N ?t ?n ?p ?q ?k ?z0 ?w ?e ?z ?_ ?s ?g; (case F => k_asm); (case N => k_asm); (case t => first | exact Fr.tup (by k_asm) (by assumption) | exact Fr.tupP (by assumption) (by k_asm) (by k_asm) (by k_all) | exact News.isTup (by k_asm) (by k_mem)); (case n => exact rfl); (case p => kmk_part); (case q => kmk_part); (case k => kmk_part); (case z0 => exact rfl); (case w => exact rfl); (case e => kl_lit); (case z => exact Nat.le_of_ble_eq_true rfl); (case s => with_unfolding_all rfl); (case g => kmk_pure)); intro D' h' F' N' l1; (try k_lt l1); (try k_sweep))))
  trivial
theorem w19 : True := by
  k_with "M subscriptTail Name Slice ref ref" => (case' FRESH => ((k_here; (with_reducible show wpAny _ _ (subscriptTail _ (PySem.Expr.Slice _ _ _ _) (Value.ref _) (Value.ref _)) _ _ _); k_dflt (refine' tup_wholeN 2 ?F ?N ?t ?n ?p ?q ?k ?z0 ?w ?z ?_ ?s ?g; (case F => k_asm); (case N => k_asm); (case t => first | exact Fr.tup (by k_asm) (by assumption) | exact Fr.tupP (by assumption) (by k_asm) (by k_asm) (by k_all) | exact News.isTup (by k_asm) (by k_mem)); (case n => exact rfl); (case p => kmk_part); (case q => kmk_part); (case k => kmk_part); (case z0 => exact rfl); (case w => exact rfl); (case z => exact Nat.le_of_ble_eq_true rfl); (case s => with_unfolding_all rfl); (case g => kmk_pure)); intro h' F' N' _; (try k_sweep))))
  trivial
theorem w20 : True := by
  k_with "M subscriptTail Name Slice ref ref" => (case' FRESH => ((k_here; (with_reducible show wpAny _ _ (subscriptTail _ (PySem.Expr.Slice _ _ _ _) (Value.ref _) (Value.ref _)) _ _ _); k_dflt (refine' tup_sliceN 2 ?F ?N ?t ?n ?p ?q ?k ?z0 ?w ?e ?z ?_ ?s ?g; (case F => k_asm); (case N => k_asm); (case t => first | exact Fr.tup (by k_asm) (by assumption) | exact Fr.tupP (by assumption) (by k_asm) (by k_asm) (by k_all) | exact News.isTup (by k_asm) (by k_mem)); (case n => exact rfl); (case p => kmk_part); (case q => kmk_part); (case k => kmk_part); (case z0 => exact rfl); (case w => exact rfl); (case e => kl_lit); (case z => exact Nat.le_of_ble_eq_true rfl); (case s => with_unfolding_all rfl); (case g => kmk_pure)); intro D' h' F' N' l1; (try k_lt l1); (try k_sweep))))
  trivial
theorem w21 : True := by
  k_with "M exec For Name Subscript cons nil" => (case' FRESH => ((k_here; k_dflt (refine' for_gen ?_ ?hs ?hE; (case hs => intro _; with_unfolding_all rfl); (case hE => passes_own); k_whole))))
  trivial
theorem w22 : True := by
  k_with "M pyIter ref" => (case' FRESH => ((k_here; (with_reducible show wpAny _ _ (pyIter (Value.ref _)) (fun it s₂ => LoopG _ _ _ _ _ _ _ _ it s₂) _ _); k_dflt (refine' iter_tup ?h ?F ?N ?X ?_; (case h => first | rfl | exact Rm.hhd (by assumption)); (case F => k_asm); (case N => k_asm); (case X => first | exact Fr.tup (by k_asm) (by assumption) | exact Fr.tupP (by assumption) (by k_asm) (by k_asm) (by k_all) | exact News.isTup (by k_asm) (by k_mem)); k_whole); intro i' l1; (try k_lt l1))))
  trivial
theorem w23 : True := by
  k_with "M pyIter ref" => (case' FRESH => ((k_here; (with_reducible show wpAny _ _ (pyIter (Value.ref _)) (fun it s₂ => LoopG _ _ _ _ _ _ _ _ it s₂) _ _); k_dflt (refine' iter_lst ?h ?F ?N ?X ?_; (case h => first | rfl | exact Rm.hhd (by assumption)); (case F => k_asm); (case N => k_asm); (case X => exact News.isList (by k_asm) (by k_mem)); k_whole); intro i' l1; (try k_lt l1))))
  trivial
theorem w24 : True := by
  k_with "M Rest" => (case' FRESH => (first | (with_unfolding_all refine Rest.succ (fun oI' h' tk' hoI' F' N' => ?_)) | (with_unfolding_all refine Rest.zero (fun h' tk' F' N' => ?_))))
  trivial
theorem w25 : True := by
  k_with "M TurnG" => (case' FRESH => (dsimp only [TurnG]))
  trivial
theorem w26 : True := by
  k_with "M UEnd" => (case' FRESH => ((refine' UEnd.intro (by assumption) (by assumption) ?hD ?hn ?ht ?_; (case hD => k_all); (case hn => k_all); (case ht => first | exact Fr.tup (by k_asm) (by assumption) | exact Fr.tupP (by assumption) (by k_asm) (by k_asm) (by k_all) | exact News.isTup (by k_asm) (by k_mem) | exact News.isList (by k_asm) (by k_mem)))))
  trivial
end
/-! LoopD -/
section
/-! a for whose turns may draw: turn by turn over a written source -/
inductive UEndD (h₀ : Heap) (L : Addr) (s : Shared) (I : Addr) (oI : Obj) (kt : Heap → Prop) (K : (Str → Option Value) → List (Addr × Obj) → Prop) (s₄ : Shared) : Prop
  | mk (h' : Heap) (d : Drawn) (tk : Nat) (m' : Str → Option Value) (news' : List (Addr × Obj)) (e : s₄ = { s with heap := h', drawn := d, toks := tk }) (F : Fr h₀ L h' m') (N : News h₀ L h' news') (hI : h'.get? I = some oI) (hn : ∀ p ∈ news', p.1 ≠ I) (k : kt h') (r : K m' news') : UEndD h₀ L s I oI kt K s₄
theorem UEndD.intro {h₀ h' : Heap} {L I : Addr} {s : Shared} {oI : Obj} {kt : Heap → Prop} {K : (Str → Option Value) → List (Addr × Obj) → Prop} {m' : Str → Option Value} {l news' : List (Addr × Obj)} {d : Drawn} {tk : Nat}
    (F : Fr h₀ L h' m') (N : News h₀ L h' l) (D : Drop (I, oI) l news') (hn : ∀ p ∈ news', p.1 ≠ I) (ht : kt h') (k : K m' news') : UEndD h₀ L s I oI kt K { s with heap := h', drawn := d, toks := tk } :=
  ⟨h', d, tk, m', news', rfl, F, fun p hp => N p (D.mem.2 p hp), (N _ D.mem.1).1, hn, ht, k⟩
theorem UEndD.mono {h₀ : Heap} {L I : Addr} {s s₄ : Shared} {oI : Obj} {kt : Heap → Prop} {K K' : (Str → Option Value) → List (Addr × Obj) → Prop} (x : UEndD h₀ L s I oI kt K s₄) (k : ∀ m n, K m n → K' m n) : UEndD h₀ L s I oI kt K' s₄ := by
  cases x with
  | mk h' d tk m' news' e F N hI hn kk r => exact ⟨h', d, tk, m', news', e, F, N, hI, hn, kk, k _ _ r⟩
def RestD (prog : Program) (w : World) (A : Around) (h₀ : Heap) (env : Env) (target : Expr) (body : List Stmt) (Q : Flow → Shared → Prop) (E : Value → Shared → Prop) (s : Shared) (I : Addr) (kt : Heap → Prop) : List (Value → Prop) → (Str → Option Value) → List (Addr × Obj) → Prop
  | [], m, news => ∀ h d tk, Fr h₀ env.locals h m → News h₀ env.locals h news → Q .next { s with heap := h, drawn := d, toks := tk }
  | p :: r, m, news => ∀ v oI h d tk, p v → tupObj oI = false → Fr h₀ env.locals h m → News h₀ env.locals h ((I, oI) :: news) →
      wpAny (model prog w) A (assign target env v) (fun _ s₃ => wpAny (model prog w) A (execs body env) (TurnG (UEndD h₀ env.locals s I oI kt (RestD prog w A h₀ env target body Q E s I kt r)) Q) E s₃) E { s with heap := h, drawn := d, toks := tk }
section
variable {prog : Program} {w : World} {A : Around} {E : Value → Shared → Prop} {s : Shared} {env : Env} {h₀ : Heap} {target : Expr} {body : List Stmt} {Q : Flow → Shared → Prop} {m : Str → Option Value} {news : List (Addr × Obj)} {I t : Addr} {kt : Heap → Prop}
theorem RestD.zero (h : ∀ h d tk, Fr h₀ env.locals h m → News h₀ env.locals h news → Q .next { s with heap := h, drawn := d, toks := tk }) : RestD prog w A h₀ env target body Q E s I kt [] m news := h
theorem RestD.succ {p : Value → Prop} {r : List (Value → Prop)} (h : ∀ v oI h d tk, p v → tupObj oI = false → Fr h₀ env.locals h m → News h₀ env.locals h ((I, oI) :: news) →
      wpAny (model prog w) A (assign target env v) (fun _ s₃ => wpAny (model prog w) A (execs body env) (TurnG (UEndD h₀ env.locals s I oI kt (RestD prog w A h₀ env target body Q E s I kt r)) Q) E s₃) E { s with heap := h, drawn := d, toks := tk }) :
    RestD prog w A h₀ env target body Q E s I kt (p :: r) m news := h
theorem RestD.ind (inv : List (Value → Prop) → (Str → Option Value) → List (Addr × Obj) → Prop)
    (zero : ∀ m news h d tk, inv [] m news → Fr h₀ env.locals h m → News h₀ env.locals h news → Q .next { s with heap := h, drawn := d, toks := tk })
    (succ : ∀ p v r m news oI h d tk, inv (p :: r) m news → p v → tupObj oI = false → Fr h₀ env.locals h m → News h₀ env.locals h ((I, oI) :: news) →
      wpAny (model prog w) A (assign target env v) (fun _ s₃ => wpAny (model prog w) A (execs body env) (TurnG (UEndD h₀ env.locals s I oI kt (inv r)) Q) E s₃) E { s with heap := h, drawn := d, toks := tk }) :
    ∀ ps m news, inv ps m news → RestD prog w A h₀ env target body Q E s I kt ps m news := by
  intro ps
  induction ps with
  | nil => exact fun m news hi h d tk F N => zero m news h d tk hi F N
  | cons p r ih =>
    intro m news hi v oI h d tk hv ht F N
    refine wpAny_mono (succ p v r m news oI h d tk hi hv ht F N) (fun _ s₃ h₃ => wpAny_mono h₃ (fun f s₄ h₄ => ?_) fun _ _ e => e) fun _ _ e => e
    have up : UEndD h₀ env.locals s I oI kt (inv r) s₄ → UEndD h₀ env.locals s I oI kt (RestD prog w A h₀ env target body Q E s I kt r) s₄ := fun x => x.mono fun _ _ hi' => ih _ _ hi'
    cases f with
    | ret v => exact h₄
    | brk => exact h₄
    | next => exact up h₄
    | cont => exact up h₄
theorem iter_restD {ps : List (Value → Prop)} {St : Nat → Heap → Prop} {P : Nat → Value → Heap → Heap → Prop} {fp : List Addr} {s₂ : Shared}
    (S : Src prog w A target I fp [I] ps.length P St) (hP : ∀ i v h h', P i v h h' → ∃ p, ps[i]? = some p ∧ p v)
    (hfp : ∀ h h', kt h → kt h' → ∀ oI, h.get? I = some oI → h'.get? I = some oI → ∀ i, St i h → St i h') (hkt : ∀ h h', But [I] h h' → kt h → kt h')
    (hI : ∀ i h, St i h → ∃ oI, h.get? I = some oI ∧ tupObj oI = false)
    (hs : ∃ h d tk, s₂ = { s with heap := h, drawn := d, toks := tk }) (h0 : St 0 s₂.heap) (k0 : kt s₂.heap)
    (F : Fr h₀ env.locals s₂.heap m) (N : News h₀ env.locals s₂.heap news) (hL : I ≠ env.locals) (hIn : h₀.get? I = none) (hn : ∀ p ∈ news, p.1 ≠ I)
    (rest : RestD prog w A h₀ env target body Q E s I kt ps m news) : LoopG prog w A env target body Q E (.ref I) s₂ := by
  refine ⟨I, fp, [I], ps.length, P, St, fun i => RInv h₀ env.locals (fun s' => ∃ h d tk, s' = { s with heap := h, drawn := d, toks := tk }) (fun news => ∀ p ∈ news, p.1 ≠ I) kt (RestD prog w A h₀ env target body Q E s I kt (ps.drop i)),
    rfl, S, h0, ⟨hs, k0, m, news, F, N, hn, by rw [List.drop_zero]; exact rest⟩, ?_, ?_⟩
  · intro i s₁ v h' tk' hi hx hp st kb
    refine hideG fun G' g' => ?_
    rcases hx with ⟨⟨h, d, tk, e1⟩, kh, m, news, F, N, hn, rest⟩
    refine g' ?_
    clear g'
    subst e1
    obtain ⟨q, hv, hq⟩ := hP i v _ _ hp
    have hdrop : ps.drop i = q :: ps.drop (i + 1) := by
      rw [List.drop_eq_getElem_cons hi]
      congr 1
      exact Option.some.inj ((List.getElem?_eq_getElem hi).symm.trans hv)
    rw [hdrop] at rest
    obtain ⟨oI, hoI, htI⟩ := hI _ _ st
    have kh' := hkt _ _ kb kh
    have F' : Fr h₀ env.locals h' m := by
      obtain ⟨oL, es, ep, hoL, hr⟩ := F.ns
      exact ⟨⟨oL, es, ep, kb _ _ (fun q => hL (List.mem_singleton.mp q).symm) hoL, hr⟩, fun b o e => kb b o (fun q => by rw [List.mem_singleton.mp q, hIn] at e; cases e) (F.keep b o e), F.above⟩
    have N' : News h₀ env.locals h' ((I, oI) :: news) := fun p hp => by
      rcases List.mem_cons.mp hp with rfl | hp
      · exact ⟨hoI, hL, hIn⟩
      · exact ⟨kb _ _ (fun q => hn p hp (List.mem_singleton.mp q)) (N p hp).1, (N p hp).2⟩
    refine wpAny_mono (rest v oI h' d tk' hq htI F' N') (fun _ s₃ h₃ => wpAny_mono h₃ (fun f s₄ h₄ => ?_) fun _ _ e => e) fun _ _ e => e
    have fin : UEndD h₀ env.locals s I oI kt (RestD prog w A h₀ env target body Q E s I kt (ps.drop (i + 1))) s₄ → St (i + 1) s₄.heap ∧ RInv h₀ env.locals (fun s' => ∃ h d tk, s' = { s with heap := h, drawn := d, toks := tk }) (fun news => ∀ p ∈ news, p.1 ≠ I) kt (RestD prog w A h₀ env target body Q E s I kt (ps.drop (i + 1))) s₄ := by
      intro hx
      refine hideG fun G' g' => ?_
      rcases hx with ⟨h'', d'', tk'', m', news', e1, F'', N'', hI', hn', k', r⟩
      refine g' ?_
      clear g'
      subst e1
      exact ⟨hfp _ _ kh' k' oI hoI hI' _ st, ⟨_, _, _, rfl⟩, k', m', news', F'', N'', hn', r⟩
    cases f with
    | ret v => exact h₄
    | brk => exact h₄
    | next => exact fin h₄
    | cont => exact fin h₄
  · intro s₁ h' tk' hx kb
    refine hideG fun G' g' => ?_
    rcases hx with ⟨⟨h, d, tk, e1⟩, kh, m, news, F, N, hn, rest⟩
    refine g' ?_
    clear g'
    subst e1
    rw [List.drop_length] at rest
    obtain ⟨oL, es, ep, hoL, hr⟩ := F.ns
    exact rest h' d tk' ⟨⟨oL, es, ep, kb _ _ (fun q => hL (List.mem_singleton.mp q).symm) hoL, hr⟩, fun b o e => kb b o (fun q => by rw [List.mem_singleton.mp q, hIn] at e; cases e) (F.keep b o e), F.above⟩
      fun p hp => ⟨kb _ _ (fun q => hn p hp (List.mem_singleton.mp q)) (N p hp).1, (N p hp).2⟩
theorem iter_tupD {vs : List Value} (hh : A.handled = none) (F : Fr h₀ env.locals s.heap m) (N : News h₀ env.locals s.heap news) (hT : IsTup s.heap t vs.toArray)
    (rest : ∀ I : Addr, (∀ p ∈ news, p.1 < I) → RestD prog w A h₀ env target body Q E s I (fun h => IsTup h t vs.toArray) (vs.map fun v y => y = v) m news) :
    wpAny (model prog w) A (pyIter (.ref t)) (fun it s₂ => LoopG prog w A env target body Q E it s₂) E s := by
  have hlt : t < s.heap.objs.size := by obtain ⟨o, ho, _⟩ := hT; exact Heap.lt_size ho
  have up : ∀ (h h' : Heap), (∀ o, h.get? t = some o → h'.get? t = some o) → IsTup h t vs.toArray → IsTup h' t vs.toArray := fun h h' k x => by obtain ⟨o, ho, r⟩ := x; exact ⟨o, k _ ho, r⟩
  refine wpAny_pyIter_tuple hT ?_
  have W := Walks.tuple (prog := prog) (w := w) hh s.heap.objs.size t (Nat.ne_of_lt hlt) vs.toArray
  have S := Src.ofWalks (target := target) W fun i s' v Q' E' st hq => letGo_tupleiter st.1 hq
  have e : vs.toArray.size = vs.length := List.size_toArray ..
  rw [e, ← List.length_map (f := fun (v : Value) (y : Value) => y = v)] at S
  have T1 := up _ _ (fun o e => Heap.get?_push_of_some { cls := .type "tuple_iterator", data := .fields #[.ref t, .int 0 0] } e) hT
  refine iter_restD S (fun i v _ _ h => ⟨fun y => y = v, by rw [List.getElem?_map, show vs[i]? = some v by simpa using h]; rfl, rfl⟩) (fun h h' k1 k2 oI h1 h2 i st => ⟨?_, k2⟩) (fun h h' kb k => up _ _ (fun o e => kb _ _ (fun q => Nat.ne_of_lt hlt (List.mem_singleton.mp q)) e) k)
    (fun i h st => ?_) ⟨_, _, _, rfl⟩ ⟨⟨_, Heap.get?_push_size _ rfl, rfl, rfl⟩, T1⟩ T1 (F.push _) (fun p hp => ⟨Heap.get?_push_of_some _ (N p hp).1, (N p hp).2⟩)
    (Nat.ne_of_gt F.ns.lt) (PyProof.Rows.Fr.fresh F) (fun p hp => Nat.ne_of_lt (Heap.lt_size (N p hp).1)) (rest _ fun p hp => Heap.lt_size (N p hp).1)
  · obtain ⟨o', ho', hr⟩ := st.1
    rw [h1] at ho'
    cases ho'
    exact ⟨_, h2, hr⟩
  · obtain ⟨o', ho', hc', hd'⟩ := st.1
    exact ⟨o', ho', by unfold tupObj; rw [hd']; simp⟩
theorem iter_lstD {vs : List Value} (hh : A.handled = none) (F : Fr h₀ env.locals s.heap m) (N : News h₀ env.locals s.heap news) (hT : s.heap.IsList t vs.toArray)
    (rest : ∀ I : Addr, (∀ p ∈ news, p.1 < I) → RestD prog w A h₀ env target body Q E s I (fun h => h.IsList t vs.toArray) (vs.map fun v y => y = v) m news) :
    wpAny (model prog w) A (pyIter (.ref t)) (fun it s₂ => LoopG prog w A env target body Q E it s₂) E s := by
  have hlt : t < s.heap.objs.size := by obtain ⟨o, ho, _⟩ := hT; exact Heap.lt_size ho
  have up : ∀ (h h' : Heap), (∀ o, h.get? t = some o → h'.get? t = some o) → h.IsList t vs.toArray → h'.IsList t vs.toArray := fun h h' k x => by obtain ⟨o, ho, r⟩ := x; exact ⟨o, k _ ho, r⟩
  refine wpAny_pyIter_list hT ?_
  have W := Walks.list (prog := prog) (w := w) hh s.heap.objs.size t (Nat.ne_of_lt hlt) vs.toArray
  have S := Src.ofWalks (target := target) W fun i s' v Q' E' st hq => letGo_listiter st.1 hq
  have e : vs.toArray.size = vs.length := List.size_toArray ..
  rw [e, ← List.length_map (f := fun (v : Value) (y : Value) => y = v)] at S
  have T1 := up _ _ (fun o e => Heap.get?_push_of_some { cls := .type "list_iterator", data := .fields #[.ref t, .int 0 0] } e) hT
  refine iter_restD S (fun i v _ _ h => ⟨fun y => y = v, by rw [List.getElem?_map, show vs[i]? = some v by simpa using h]; rfl, rfl⟩) (fun h h' k1 k2 oI h1 h2 i st => ⟨?_, k2⟩) (fun h h' kb k => up _ _ (fun o e => kb _ _ (fun q => Nat.ne_of_lt hlt (List.mem_singleton.mp q)) e) k)
    (fun i h st => ?_) ⟨_, _, _, rfl⟩ ⟨⟨_, Heap.get?_push_size _ rfl, rfl, rfl⟩, T1⟩ T1 (F.push _) (fun p hp => ⟨Heap.get?_push_of_some _ (N p hp).1, (N p hp).2⟩)
    (Nat.ne_of_gt F.ns.lt) (PyProof.Rows.Fr.fresh F) (fun p hp => Nat.ne_of_lt (Heap.lt_size (N p hp).1)) (rest _ fun p hp => Heap.lt_size (N p hp).1)
  · obtain ⟨o', ho', hr⟩ := st.1
    rw [h1] at ho'
    cases ho'
    exact ⟨_, h2, hr⟩
  · obtain ⟨o', ho', hc', hd'⟩ := st.1
    exact ⟨o', ho', by unfold tupObj; rw [hd']; simp⟩
theorem iter_dictD {d : Addr} {kvs : List (Str × Value)} {ep : Nat} (lo : (d == sysModules) = false) (hh : A.handled = none) (F : Fr h₀ env.locals s.heap m) (N : News h₀ env.locals s.heap news) (hat : s.heap.DictAt (strKind prog w) d kvs ep)
    (rest : ∀ I : Addr, (∀ p ∈ news, p.1 < I) → RestD prog w A h₀ env target body Q E s I (fun h => h.DictAt (strKind prog w) d kvs ep) (kvs.map fun kv y => ∃ t, y = .str kv.1 t) m news) :
    wpAny (model prog w) A (pyIter (.ref d)) (fun it s₂ => LoopG prog w A env target body Q E it s₂) E s := by
  have hne : d ≠ s.heap.objs.size := Nat.ne_of_lt hat.lt_size
  refine wpAny_pyIter_dict lo hat ?_
  have S := Src.ofWalks (target := target) (Walks.dictKeys (knd := strKind prog w) (prog := prog) (w := w) hh s.heap.objs.size d hne kvs ep) fun i s' v Q' E' st hq => letGo_keyiter st.1 hq
  rw [← List.length_map (f := fun (kv : Str × Value) (y : Value) => ∃ t, y = .str kv.1 t)] at S
  refine iter_restD S (fun i v _ _ hx => ?_) (fun h h' k1 k2 oI h1 h2 i st => ⟨?_, k2⟩) (fun h h' kb k => k.at' fun o e => kb _ _ (fun q => hne (List.mem_singleton.mp q)) e)
    (fun i h st => ?_) ⟨_, _, _, rfl⟩ ⟨⟨_, Heap.get?_push_size _ rfl, rfl, by rw [List.length_map]; rfl⟩, hat.push _⟩ (hat.push _) (F.push _) (fun p hp => ⟨Heap.get?_push_of_some _ (N p hp).1, (N p hp).2⟩)
    (Nat.ne_of_gt F.ns.lt) (PyProof.Rows.Fr.fresh F) (fun p hp => Nat.ne_of_lt (Heap.lt_size (N p hp).1)) (rest _ fun p hp => Heap.lt_size (N p hp).1)
  · obtain ⟨k, x, hx, hk⟩ := hx
    obtain ⟨t, rfl⟩ := Value.isStrOf_shape hk
    exact ⟨fun y => ∃ t, y = .str k t, by rw [List.getElem?_map, hx]; rfl, t, rfl⟩
  · obtain ⟨o', ho', hr⟩ := st.1
    rw [h1] at ho'
    cases ho'
    exact ⟨_, h2, hr⟩
  · obtain ⟨o', ho', hc', hd'⟩ := st.1
    exact ⟨o', ho', by unfold tupObj; rw [hd']; simp⟩
end
theorem w27 : True := by
  k_with "M RestD" => (case' FRESH => (first | ((with_unfolding_all refine RestD.succ (fun v' oI' h' d' tk' hv' hoI' F' N' => ?_)); (try dsimp only at hv'); subst hv') | (with_unfolding_all refine RestD.zero (fun h' d' tk' F' N' => ?_))))
  trivial
theorem w28 : True := by
  k_with "M UEndD" => (case' FRESH => ((refine' UEndD.intro (by assumption) (by assumption) ?hD ?hn ?ht ?_; (case hD => k_all); (case hn => k_all); (case ht => first | exact Fr.tup (by k_asm) (by assumption) | exact Fr.tupP (by assumption) (by k_asm) (by k_asm) (by k_all) | exact News.isTup (by k_asm) (by k_mem) | exact News.isList (by k_asm) (by k_mem)))))
  trivial
end
/-! EnumL -/
section
set_option maxRecDepth 100000
/-! list(enumerate(list)) -/
theorem en_nolen : typeLookup (.type "enumerate") "__len__" = pure none := by rw [typeLookup_type, builtinLookup_eq_fast]; kernel_rfl
theorem en_nohint : typeLookup (.type "enumerate") "__length_hint__" = pure none := by rw [typeLookup_type, builtinLookup_eq_fast]; kernel_rfl
abbrev enObj (T : Addr) (b : Bool) (it : Addr) (i : Int) (y : Value) : Obj := { cls := .type "enumerate", dict := none, data := .fields #[rawInt T, .bool b, .ref it, rawInt i, .none, y], slots := #[] }
section
variable {prog : Program} {w : World} {A : Around} {E : Value → Shared → Prop} {s : Shared}
theorem any_alive {a : Addr} {Q : Option Obj → Shared → Prop} (h : Q (s.heap.get? a) s) : wpAny (model prog w) A (loadIfAlive a) Q E s := fun Γ p hΓ => by
  show Sem.wp _ _ (loadIfAlive a) _ _ p s
  unfold loadIfAlive
  simp only [Sem.wp_loadIfAlive]
  exact wpAny_pure h Γ p hΓ
/-- the next pair where the one handed out before still lives -/
theorem enum_next2 {e it l T : Addr} {b : Bool} {i : Nat} {items : Array Value} {x y : Value} {Q : Option Value → Shared → Prop}
    (he : s.heap.get? e = some (enObj T b it i y)) (hT : ∃ o, s.heap.get? T = some o) (hTe : T ≠ e) (hTi : T ≠ it) (hit : s.heap.IsListIter it l i) (hl : s.heap.IsList l items) (hx : items[i]? = some x) (hne : e ≠ it)
    (hQ : ∀ h', h'.get? e = some (enObj T true it ((i : Int) + 1) y) → h'.IsListIter it l (i + 1) → h'.get? s.heap.objs.size = some { cls := .type "tuple", data := .seq #[.int i s.toks, x] } → h'.objs.size = s.heap.objs.size + 1 →
      (∀ b o, b ≠ e → b ≠ it → s.heap.get? b = some o → h'.get? b = some o) → Q (some (.ref s.heap.objs.size)) { s with heap := h', toks := s.toks + 1 }) :
    wpAny (model prog w) A (pyNext (.ref e)) Q E s := by
  have hTy : s.TypeIs (.ref e) "enumerate" := ⟨_, he, rfl⟩
  unfold pyNext
  refine wpAny_bind (wpAny_attempt (wpAny_callSpecial?_slot (name := Str.ofString "__next__") hTy PySem.F.slot_enumerate_next
    (wpAny_call_entry PySem.F.slot_enumerate_next hTy PySem.F.entry_enumerate_next ?_ (PySem.F.args_enumerate_next_1 _))))
  obtain ⟨hp, g, d, tk, os⟩ := s
  replace he : hp.get? e = some (enObj T b it i y) := he
  show wpAny _ _ (field (.ref e) 2 >>= _) _ _ _
  refine wpAny_bind (wpAny_field he rfl (x := .ref it) rfl ?_)
  refine wpAny_bind (wpAny_nextOf_list_item hit hl hx fun h₁ hit₁ hs₁ => ?_)
  replace hs₁ : Heap.SameBut it hp h₁ := hs₁
  have he₁ : h₁.get? e = some (enObj T b it i y) := (hs₁.2 e hne).trans he
  show wpAny _ _ (field (.ref e) 3 >>= _) _ _ ⟨h₁, g, d, tk, os⟩
  refine wpAny_bind (wpAny_field he₁ rfl (x := rawInt i) rfl ?_)
  show wpAny _ _ (field (.ref e) 4 >>= _) _ _ ⟨h₁, g, d, tk, os⟩
  refine wpAny_bind (wpAny_field he₁ rfl (x := .none) rfl ?_)
  show wpAny _ _ (mkInt i >>= _) _ _ ⟨h₁, g, d, tk, os⟩
  refine wpAny_bind (wpAny_mkInt ?_)
  show wpAny _ _ (setField (.ref e) 3 (rawInt ((i : Int) + 1)) >>= _) _ _ ⟨h₁, g, d, tk + 1, os⟩
  refine wpAny_bind (wpAny_setField_rec he₁ (by simp) fun h₂ he₂ hs₂ => ?_)
  replace hs₂ : Heap.SameBut e h₁ h₂ := hs₂
  replace he₂ : h₂.get? e = some (enObj T b it ((i : Int) + 1) y) := he₂
  show wpAny _ _ (setField (.ref e) 4 .none >>= _) _ _ ⟨h₂, g, d, tk + 1, os⟩
  refine wpAny_bind (wpAny_setField_rec he₂ (by simp) fun h₃ he₃ hs₃ => ?_)
  replace hs₃ : Heap.SameBut e h₂ h₃ := hs₃
  replace he₃ : h₃.get? e = some (enObj T b it ((i : Int) + 1) y) := he₃
  show wpAny _ _ (newTuple [.int i tk, x] >>= _) _ _ ⟨h₃, g, d, tk + 1, os⟩
  refine wpAny_bind (wpAny_newTuple ?_)
  have he₄ : (h₃.push { cls := .type "tuple", data := .seq #[.int i tk, x] }).get? e = some (enObj T b it ((i : Int) + 1) y) := Heap.get?_push_of_some _ he₃
  have hsz : h₃.objs.size = hp.objs.size := by rw [hs₃.1, hs₂.1, hs₁.1]
  have hel : e < hp.objs.size := Heap.lt_size he
  have ht₄ : (h₃.push { cls := .type "tuple", data := .seq #[.int i tk, x] }).get? hp.objs.size = some { cls := .type "tuple", data := .seq #[.int i tk, x] } := by rw [← hsz]; exact Heap.get?_push_size _ rfl
  have hz₄ : (h₃.push { cls := .type "tuple", data := .seq #[.int i tk, x] }).objs.size = hp.objs.size + 1 := by rw [Heap.size_push, hsz]
  have hk₄ : ∀ b o, b ≠ e → b ≠ it → hp.get? b = some o → (h₃.push { cls := .type "tuple", data := .seq #[.int i tk, x] }).get? b = some o := fun b o hbe hbi hb =>
    Heap.get?_push_of_some _ (hs₃.extBut b o hbe (hs₂.extBut b o hbe (hs₁.extBut b o hbi hb)))
  have hit₄ : (h₃.push { cls := .type "tuple", data := .seq #[.int i tk, x] }).IsListIter it l (i + 1) := by
    obtain ⟨o, ho, r⟩ := (hit₁.extBut hs₂.extBut (Ne.symm hne)).extBut hs₃.extBut (Ne.symm hne); exact ⟨o, Heap.get?_push_of_some _ ho, r⟩
  generalize h₃.push { cls := .type "tuple", data := .seq #[.int i tk, x] } = h₄ at he₄ ht₄ hz₄ hk₄ hit₄ ⊢
  show wpAny _ _ (Builtin.SmallTypes.ownedTupleIsFree (.ref e) >>= _) _ _ ⟨h₄, g, d, tk + 1, os⟩
  rw [hsz]
  refine wpAny_bind ?_
  unfold Builtin.SmallTypes.ownedTupleIsFree
  refine wpAny_bind (wpAny_field he₄ rfl (x := rawInt T) rfl ?_)
  obtain ⟨oT, hoT⟩ := hT
  have hoT₄ : h₄.get? T = some oT := hk₄ _ _ hTe hTi hoT
  show wpAny _ _ (loadIfAlive (Int.toNat (T : Int)) >>= _) _ _ _
  refine wpAny_bind (any_alive ?_)
  rw [Int.toNat_natCast]
  show wpAny _ _ (if (h₄.get? T).isNone = true then _ else _) _ _ _
  rw [hoT₄]
  rw [if_neg (show ¬ ((some oT : Option Obj).isNone = true) from Bool.false_ne_true)]
  refine wpAny_bind (wpAny_field he₄ rfl (x := .bool b) rfl ?_)
  have fin : ∀ h₅, h₅.get? e = some (enObj T true it ((i : Int) + 1) y) → Heap.SameBut e h₄ h₅ → Q (some (.ref hp.objs.size)) ⟨h₅, g, d, tk + 1, os⟩ := fun h₅ he₅ hs₅ => by
    refine hQ h₅ he₅ (hit₄.extBut hs₅.extBut (Ne.symm hne)) (hs₅.extBut _ _ (Nat.ne_of_gt hel) ht₄) (by rw [hs₅.1, hz₄]) fun b o hbe hbi hb => hs₅.extBut b o hbe (hk₄ b o hbe hbi hb)
  cases b with
  | true =>
    rw [if_neg (by decide)]
    refine wpAny_pure ?_
    exact wpAny_pure ⟨_, rfl, wpAny_pure (fin h₄ he₄ (Heap.SameBut.refl _ _))⟩
  | false =>
    rw [if_pos (by decide)]
    refine wpAny_bind (wpAny_setField_rec he₄ (by simp) fun h₅ he₅ hs₅ => ?_)
    refine wpAny_pure ?_
    exact wpAny_pure ⟨_, rfl, wpAny_pure (fin h₅ he₅ hs₅)⟩
theorem enum_end2 {e it l T : Addr} {b : Bool} {i : Nat} {items : Array Value} {y : Value} {Q : Option Value → Shared → Prop} (hh : A.handled = none)
    (he : s.heap.get? e = some (enObj T b it i y)) (hit : s.heap.IsListIter it l i) (hl : s.heap.IsList l items) (hx : items[i]? = none)
    (hQ : ∀ h', Heap.ExtBut it s.heap h' → Q none { s with heap := h' }) : wpAny (model prog w) A (pyNext (.ref e)) Q E s := by
  have hT : s.TypeIs (.ref e) "enumerate" := ⟨_, he, rfl⟩
  unfold pyNext
  refine wpAny_bind (wpAny_attempt (wpAny_callSpecial?_slot (name := Str.ofString "__next__") hT PySem.F.slot_enumerate_next
    (wpAny_call_entry PySem.F.slot_enumerate_next hT PySem.F.entry_enumerate_next ?_ (PySem.F.args_enumerate_next_1 _))))
  show wpAny _ _ (field (.ref e) 2 >>= _) _ _ _
  refine wpAny_bind (wpAny_field he rfl (x := .ref it) rfl ?_)
  refine wpAny_bind (wpAny_nextOf_list_end hh hit hl hx fun h' x he' hx' => ?_)
  obtain ⟨o, ho, hc⟩ := hx'
  refine wpAny_bind (wpAny_isInstance (T := "StopIteration") (b := true) ⟨o, ho, hc⟩ isSubtype_stop ?_)
  exact wpAny_pure (hQ _ he')
/-- an enumerate of a list, i items on; S is the list that is built -/
structure EnSt (h : Heap) (e it l S : Addr) (i : Nat) (items : Array Value) : Prop where
  iter : h.IsListIter it l i
  list : h.IsList l items
  enum : (i = 0 ∧ ∃ old, IsEnum h e it 0 old) ∨ ∃ T b y, h.get? e = some (enObj T b it i y) ∧ (∃ o, h.get? T = some o) ∧ T ≠ e ∧ T ≠ it ∧ T ≠ S
theorem EnSt.typeIs {e it l S : Addr} {i : Nat} {items : Array Value} (x : EnSt s.heap e it l S i items) : s.TypeIs (.ref e) "enumerate" := by
  rcases x.enum with ⟨_, _, h⟩ | ⟨_, _, _, h, _⟩
  · exact ⟨_, h, rfl⟩
  · exact ⟨_, h, rfl⟩
theorem EnSt.keep {h h' : Heap} {e it l S : Addr} {i : Nat} {items : Array Value} (x : EnSt h e it l S i items) (hS : e ≠ S ∧ it ≠ S ∧ l ≠ S) (k : ∀ b o, b ≠ S → h.get? b = some o → h'.get? b = some o) : EnSt h' e it l S i items where
  iter := x.iter.at fun o => k _ o hS.2.1
  list := x.list.at fun o => k _ o hS.2.2
  enum := by
    rcases x.enum with ⟨a, o, h⟩ | ⟨T, b, y, h, ⟨o, ho⟩, n1, n2, n3⟩
    · exact .inl ⟨a, o, k _ _ hS.1 h⟩
    · exact .inr ⟨T, b, y, k _ _ hS.1 h, ⟨o, k _ _ n3 ho⟩, n1, n2, n3⟩
theorem enum_item {e it l S : Addr} {i : Nat} {items : Array Value} {x : Value} {Q : Option Value → Shared → Prop} (X : EnSt s.heap e it l S i items) (hx : items[i]? = some x) (hne : e ≠ it) (hSl : S < s.heap.objs.size)
    (hQ : ∀ h', EnSt h' e it l S (i + 1) items → IsTup h' s.heap.objs.size #[.int i s.toks, x] → (∀ b o, b ≠ e → b ≠ it → s.heap.get? b = some o → h'.get? b = some o) → Q (some (.ref s.heap.objs.size)) { s with heap := h', toks := s.toks + 1 }) :
    wpAny (model prog w) A (pyNext (.ref e)) Q E s := by
  have hit := X.iter
  have hl := X.list
  have hle : l ≠ e := by
    rintro rfl
    obtain ⟨o, ho, hc, _⟩ := hl
    rcases X.enum with ⟨_, _, h⟩ | ⟨_, _, _, h, _⟩ <;> (have h := (ho.symm.trans h : some o = _); cases h; injection hc with q; exact absurd q (by decide))
  have hli : l ≠ it := by
    rintro rfl
    obtain ⟨o, ho, hc, _⟩ := hl
    obtain ⟨o', ho', hc', _⟩ := hit
    rw [ho] at ho'; cases ho'; rw [hc] at hc'; injection hc' with q; exact absurd q (by decide)
  have lt1 : e < s.heap.objs.size := by obtain ⟨o, ho, _⟩ := X.typeIs; exact Heap.lt_size ho
  have lt2 : it < s.heap.objs.size := by obtain ⟨o, ho, _⟩ := hit; exact Heap.lt_size ho
  have fin : ∀ h' T b y, h'.get? e = some (enObj T b it ((i : Int) + 1) y) → (∃ o, h'.get? T = some o) → T ≠ e → T ≠ it → T ≠ S → h'.IsListIter it l (i + 1) → h'.get? s.heap.objs.size = some { cls := .type "tuple", data := .seq #[.int i s.toks, x] } → (∀ b o, b ≠ e → b ≠ it → s.heap.get? b = some o → h'.get? b = some o) → Q (some (.ref s.heap.objs.size)) { s with heap := h', toks := s.toks + 1 } := fun h' T b y h1 h2 h3 h4 h5 h6 h7 h8 =>
    hQ h' ⟨h6, hl.at fun o => h8 _ o hle hli, .inr ⟨T, b, y, by rw [h1]; rfl, h2, h3, h4, h5⟩⟩ ⟨_, h7, rfl, _, rfl⟩ h8
  rcases X.enum with ⟨rfl, old, he⟩ | ⟨T, b, y, he, hT, n1, n2, n3⟩
  · exact wpAny_pyNext_enum_item he hit hl hx hne fun h' a1 a2 a3 a4 a5 => fin h' s.heap.objs.size false x a1 ⟨_, a3⟩ (Nat.ne_of_gt lt1) (Nat.ne_of_gt lt2) (Nat.ne_of_gt hSl) a2 a3 a5
  · exact enum_next2 he hT n1 n2 hit hl hx hne fun h' a1 a2 a3 a4 a5 => fin h' T true y a1 (let ⟨o, ho⟩ := hT; ⟨o, a5 _ _ n1 n2 ho⟩) n1 n2 n3 a2 a3 a5
theorem enum_done {e it l S : Addr} {items : Array Value} {Q : Option Value → Shared → Prop} (hh : A.handled = none) (X : EnSt s.heap e it l S items.size items)
    (hQ : ∀ h', Heap.ExtBut it s.heap h' → Q none { s with heap := h' }) : wpAny (model prog w) A (pyNext (.ref e)) Q E s := by
  rcases X.enum with ⟨h0, old, he⟩ | ⟨T, b, y, he, _⟩
  · exact wpAny_pyNext_enum_end hh (i := items.size) (by rw [h0]; exact he) X.iter X.list (Array.getElem?_eq_none (Nat.le_refl _)) hQ
  · exact enum_end2 hh he X.iter X.list (Array.getElem?_eq_none (Nat.le_refl _)) hQ
/-- the pairs that an enumerate has handed out -/
def EnOut (h : Heap) (e it S : Addr) (items : Array Value) (Ts : List Addr) : Prop := ∀ (j : Nat) (T : Addr), Ts[j]? = some T → ∃ t x, items[j]? = some x ∧ IsTup h T #[.int (j : Nat) t, x] ∧ T ≠ e ∧ T ≠ it ∧ T ≠ S
theorem enum_loop {e it l S : Addr} {items : Array Value} {R : Result → Shared → Prop} {res : Value} (hh : A.handled = none) (hne : e ≠ it) (hS : e ≠ S ∧ it ≠ S ∧ l ≠ S) (hz : items.size ≤ 1000) (h₀ : Heap) :
    ∀ (k i : Nat) (h : Heap) (tk : Nat) (Ts : List Addr) (c : Nat), items.size - i = k → i ≤ items.size → EnSt h e it l S i items → h.get? S = some { cls := .type "list", dict := none, data := .seq (Ts.map Value.ref).toArray c, slots := #[] } → Ts.length = i → EnOut h e it S items Ts →
      (∀ b o, b ≠ e → b ≠ it → b ≠ S → h₀.get? b = some o → h.get? b = some o) →
      (∀ h' tk' Ts c', Ts.length = items.size → h'.get? S = some { cls := .type "list", dict := none, data := .seq (Ts.map Value.ref).toArray c', slots := #[] } → EnOut h' e it S items Ts → (∀ b o, b ≠ e → b ≠ it → b ≠ S → h₀.get? b = some o → h'.get? b = some o) → R (.ok (.ret res)) { s with heap := h', toks := tk' }) →
      codeAny (model prog w) A (.builtin "list.extend.loop" ⟨[.ref S, .ref e, res], []⟩) R { s with heap := h, toks := tk } := by
  have hsz : (1000 : Nat) ≤ sizeLine := by decide
  intro k
  induction k with
  | zero =>
    intro i h tk Ts c hk hi X hL hT hO hkp hR
    have hin : i = items.size := by omega
    subst hin
    refine codeAny_builtin PySem.F.entry_extend_loop ?_
    rw [Around.under_plainId PySem.F.plain_extend_loop _]
    show wpAny _ A.in1 (pyNext (.ref e) >>= _) _ _ _
    refine wpAny_bind (enum_done (show A.in1.handled = none from hh) X fun h' he => ?_)
    refine wpAny_pure (hR h' tk Ts c hT (he _ _ (Ne.symm hS.2.1) hL) (fun j T hj => ?_) fun b o n1 n2 n3 q => he _ _ n2 (hkp b o n1 n2 n3 q))
    obtain ⟨t, x, a1, a2, a3, a4, a5⟩ := hO j T hj
    exact ⟨t, x, a1, (let ⟨o, ho, r⟩ := a2; ⟨o, he _ _ a4 ho, r⟩), a3, a4, a5⟩
  | succ k ih =>
    intro i h tk Ts c hk hi X hL hT hO hkp hR
    have hlt : i < items.size := by omega
    refine codeAny_builtin PySem.F.entry_extend_loop ?_
    rw [Around.under_plainId PySem.F.plain_extend_loop _]
    show wpAny _ A.in1 (pyNext (.ref e) >>= _) _ _ _
    refine wpAny_bind (enum_item X (Array.getElem?_eq_getElem hlt) hne (Heap.lt_size hL) fun h' X' hTup kb => ?_)
    have hL' := kb _ _ (Ne.symm hS.1) (Ne.symm hS.2.1) hL
    have lt1 : e < h.objs.size := by obtain ⟨o, ho, _⟩ := EnSt.typeIs (s := { s with heap := h }) X; exact Heap.lt_size ho
    have lt2 : it < h.objs.size := by obtain ⟨o, ho, _⟩ := X.iter; exact Heap.lt_size ho
    have lt3 : S < h.objs.size := Heap.lt_size hL
    show wpAny _ A.in1 (updateSeq S (·.push (.ref h.objs.size)) >>= _) _ _ _
    refine wpAny_bind ?_
    have arr : ((Ts.map Value.ref).toArray).push (.ref h.objs.size) = ((Ts ++ [h.objs.size]).map Value.ref).toArray := by simp
    refine wpAny_updateSeq hL' rfl (wpAny_pure ⟨plainId_quiet PySem.F.plain_extend_loop _, ?_⟩) (by simp only [List.size_toArray, List.length_map]; omega) (by show (((Ts.map Value.ref).toArray).push _).size ≤ sizeLine + 1; simp only [Array.size_push, List.size_toArray, List.length_map]; omega)
    have oth : ∀ b o, b ≠ S → h'.get? b = some o → (h'.update S (Obj.mapSeq (·.push (Value.ref h.objs.size)))).get? b = some o := fun b o hb q => (Heap.get?_update_other _ _ (Ne.symm hb)).trans q
    have hnew := Heap.get?_update_self (Obj.mapSeq (·.push (Value.ref h.objs.size))) hL' rfl
    have hnew2 : ∃ c2, (h'.update S (Obj.mapSeq (·.push (Value.ref h.objs.size)))).get? S = some { cls := .type "list", dict := none, data := .seq ((Ts ++ [h.objs.size]).map Value.ref).toArray c2, slots := #[] } := by
      rw [← arr]; exact ⟨_, hnew⟩
    obtain ⟨c2, hnew2⟩ := hnew2
    refine ih (i + 1) _ _ (Ts ++ [h.objs.size]) c2 (by omega) hlt (X'.keep hS oth) hnew2 (by simp [hT]) (fun j T hj => ?_) (fun b o n1 n2 n3 q => oth b o n3 (kb b o n1 n2 (hkp b o n1 n2 n3 q))) hR
    · by_cases hj' : j < Ts.length
      · rw [List.getElem?_append_left hj'] at hj
        obtain ⟨t, x, a1, a2, a3, a4, a5⟩ := hO j T hj
        exact ⟨t, x, a1, (let ⟨o, ho, r⟩ := a2; ⟨o, oth _ _ a5 (kb _ _ a3 a4 ho), r⟩), a3, a4, a5⟩
      · have hj2 : j = Ts.length := by
          have := (List.getElem?_eq_some_iff.mp hj).1
          rw [List.length_append, List.length_singleton] at this
          omega
        subst hj2
        rw [List.getElem?_append_right (Nat.le_refl _)] at hj
        simp only [Nat.sub_self, List.getElem?_cons_zero, Option.some.injEq] at hj
        subst hj
        rw [hT]
        exact ⟨_, _, Array.getElem?_eq_getElem hlt, (let ⟨o, ho, r⟩ := hTup; ⟨o, oth _ _ (Nat.ne_of_gt lt3) ho, r⟩), Nat.ne_of_gt lt1, Nat.ne_of_gt lt2, Nat.ne_of_gt lt3⟩
theorem list_enum {e it l : Addr} {items : Array Value} {Q : Value → Shared → Prop} (hh : A.handled = none) (he : IsEnum s.heap e it 0 .none) (hit : s.heap.IsListIter it l 0) (hl : s.heap.IsList l items) (hne : e ≠ it) (hz : items.size ≤ 1000)
    (h : ∀ h' tk' Ts c', Ts.length = items.size → h'.get? s.heap.objs.size = some { cls := .type "list", dict := none, data := .seq (Ts.map Value.ref).toArray c', slots := #[] } → EnOut h' e it s.heap.objs.size items Ts → (∀ b o, b ≠ e → b ≠ it → s.heap.get? b = some o → h'.get? b = some o) → Q (.ref s.heap.objs.size) { s with heap := h', toks := tk' }) :
    wpAny (model prog w) A (call (.type "list") [.ref e]) Q E s := by
  have lt1 : e < s.heap.objs.size := Heap.lt_size he
  have lt2 : it < s.heap.objs.size := by obtain ⟨o, ho, _⟩ := hit; exact Heap.lt_size ho
  have lt3 : l < s.heap.objs.size := by obtain ⟨o, ho, _⟩ := hl; exact Heap.lt_size ho
  refine callType_codes (Q₁ := fun obj s₁ => obj = .ref s.heap.objs.size ∧ s₁ = { s with heap := s.heap.push { cls := .type "list", data := .seq #[] } }) PySem.F.called_list (PySem.F.typeCall_list_1 _) PySem.F.entry_list_init
    (code_list_new _ ⟨rfl, rfl⟩) fun obj s₁ h₁ => ?_
  obtain ⟨rfl, rfl⟩ := h₁
  have hS : (s.heap.push { cls := .type "list", data := .seq #[] }).get? s.heap.objs.size = some { cls := .type "list", data := .seq #[] } := Heap.get?_push_size _ rfl
  have k0 : ∀ b o, s.heap.get? b = some o → (s.heap.push { cls := .type "list", data := .seq #[] }).get? b = some o := fun b o q => Heap.get?_push_of_some _ q
  refine ⟨⟨_, hS, rfl⟩, PySem.F.args_list_init_2 _ _, ?_⟩
  generalize hSS : s.heap.objs.size = S at hS lt1 lt2 lt3 h ⊢
  have hne3 : e ≠ S ∧ it ≠ S ∧ l ≠ S := ⟨Nat.ne_of_lt lt1, Nat.ne_of_lt lt2, Nat.ne_of_lt lt3⟩
  show wpAny _ A.in1.in1 (do let old ← Builtin.List.listItems (.ref S); Builtin.List.listUpdate (.ref S) (fun _ => #[]); letGo old.toList.reverse; Builtin.List.listExtendWith (.ref S) (.ref e) .none) _ _ _
  refine wpAny_bind ?_
  unfold Builtin.List.listItems
  refine wpAny_bind (wpAny_seqItems hS rfl (wpAny_pure ?_))
  show wpAny _ _ (updateSeq S (fun _ => #[]) >>= fun _ => letGo (#[] : Array Value).toList.reverse >>= fun _ => Builtin.List.listExtendWith (.ref S) (.ref e) .none) _ _ _
  refine wpAny_bind (wpAny_updateSeq hS rfl ?_)
  have hS₂ := Heap.get?_update_self (Obj.mapSeq (fun _ => (#[] : Array Value))) hS rfl
  have oth : ∀ b o, b ≠ S → s.heap.get? b = some o → ((s.heap.push { cls := .type "list", data := .seq #[] }).update S (Obj.mapSeq (fun _ => (#[] : Array Value)))).get? b = some o := fun b o hb q => (Heap.get?_update_other _ _ (Ne.symm hb)).trans (k0 b o q)
  refine wpAny_bind (wpAny_letGo ?_)
  generalize (s.heap.push { cls := .type "list", data := .seq #[] }).update S (Obj.mapSeq (fun _ => (#[] : Array Value))) = h₁ at hS₂ oth ⊢
  clear hS k0
  have he₁ : IsEnum h₁ e it 0 .none := oth _ _ hne3.1 he
  have X₁ : EnSt h₁ e it l S 0 items := ⟨hit.at fun o => oth _ o hne3.2.1, hl.at fun o => oth _ o hne3.2.2, .inl ⟨rfl, _, he₁⟩⟩
  have hT₁ : Shared.TypeIs { s with heap := h₁ } (.ref e) "enumerate" := ⟨_, he₁, rfl⟩
  unfold Builtin.List.listExtendWith
  refine wpAny_bind (wpAny_typeOf hT₁ ?_)
  have h1 : Builtin.List.listSameRef (.ref S) (.ref e) = false := by simp [Builtin.List.listSameRef, Ne.symm hne3.1]
  have h2 : (Value.type "enumerate" == Value.type "list") = false := by decide
  have h3 : (Value.type "enumerate" == Value.type "tuple") = false := by decide
  simp only [h1, h2, h3, Bool.or_false, Bool.false_eq_true, if_false]
  refine wpAny_bind (wpAny_pyIter_enum he₁ ?_)
  refine wpAny_bind (wpAny_holding ?_)
  unfold Builtin.List.listLengthHint
  refine wpAny_bind (wpAny_specialOf hT₁ en_nolen ?_)
  show wpAny _ _ (specialOf (Value.ref e) (Str.ofString "__length_hint__") >>= _) _ _ _
  refine wpAny_bind (wpAny_specialOf hT₁ en_nohint ?_)
  refine wpAny_pure ?_
  show wpAny _ _ (rule "list.extend.makes-room" >>= fun _ => Builtin.List.listTouch (.ref S) >>= fun _ =>
    again (.builtin "list.extend.loop" ⟨[.ref S, .ref e, .none], []⟩)) _ _ _
  refine wpAny_bind (wpAny_rule ?_)
  refine wpAny_bind ?_
  show wpAny _ _ (updateSeq S (·.push .none) >>= fun _ => updateSeq S (·.pop)) _ _ _
  refine wpAny_bind (wpAny_updateSeq hS₂ rfl ?_)
  have hS₃ := Heap.get?_update_self (Obj.mapSeq (·.push Value.none)) hS₂ rfl
  refine wpAny_updateSeq (hz := by seq_fits) hS₃ rfl ?_
  have hS₄ := Heap.get?_update_self (Obj.mapSeq (·.pop)) hS₃ rfl
  have oth2 : ∀ b o, b ≠ S → h₁.get? b = some o → ((h₁.update S (Obj.mapSeq (·.push Value.none))).update S (Obj.mapSeq (·.pop))).get? b = some o :=
    fun b o hb q => (Heap.get?_update_other _ _ (Ne.symm hb)).trans ((Heap.get?_update_other _ _ (Ne.symm hb)).trans q)
  refine wpAny_pure ⟨plainId_quiet PySem.F.plain_extend_loop _, enum_loop (s := s) (show A.in1.handled = none from hh) hne hne3 hz s.heap items.size 0 _ _ [] _ rfl (Nat.zero_le _) (X₁.keep hne3 oth2) hS₄ rfl (fun j T hj => by simp at hj) (fun b o n1 n2 n3 q => oth2 b o n3 (oth b o n3 q)) fun h' tk' Ts c' a1 a2 a3 a4 => ?_⟩
  exact ⟨rfl, h h' tk' Ts c' a1 a2 a3 fun b o n1 n2 q => a4 b o n1 n2 (fun z => by have := Heap.lt_size q; rw [hSS, z] at this; exact Nat.lt_irrefl _ this) q⟩
end
end
/-! Heads -/
section

inductive TvL (P : Addr → Array Value → Prop) : List Value → List PyData → Prop
  | nil : TvL P [] []
  | cons {v vs d ds} : Tv P v d → TvL P vs ds → TvL P (v :: vs) (d :: ds)
theorem TvL.mono {P P' : Addr → Array Value → Prop} (hp : ∀ a vs, P a vs → P' a vs) {vs : List Value} {ds : List PyData} (x : TvL P vs ds) : TvL P' vs ds := by
  induction x with
  | nil => exact .nil
  | cons h _ ih => exact .cons (h.mono hp) ih
theorem TvL.append {P : Addr → Array Value → Prop} {vs ws : List Value} {ds es : List PyData} (x : TvL P vs ds) (y : TvL P ws es) : TvL P (vs ++ ws) (ds ++ es) := by
  induction x with
  | nil => exact y
  | cons h _ ih => exact .cons h ih
theorem TvL.length {P : Addr → Array Value → Prop} {vs : List Value} {ds : List PyData} (x : TvL P vs ds) : vs.length = ds.length := by
  induction x with
  | nil => rfl
  | cons _ _ ih => simp [ih]

def headsOf : Tm → List PyData
  | .leaf c => [.tuple [.str c, .int 0]]
  | .un t => .tuple [.str (Str.ofString "f"), .int 1] :: headsOf t
  | .bin t u => .tuple [.str (Str.ofString "g"), .int 2] :: (headsOf t ++ headsOf u)
def Tm.size : Tm → Nat
  | .leaf _ => 1
  | .un t => t.size + 1
  | .bin t u => t.size + u.size + 1
theorem Tm.size_pos : ∀ t : Tm, 1 ≤ t.size
  | .leaf _ => Nat.le_refl _
  | .un _ => Nat.succ_le_succ (Nat.zero_le _)
  | .bin _ _ => Nat.succ_le_succ (Nat.zero_le _)
theorem headsOf_length : ∀ t, (headsOf t).length = t.size
  | .leaf _ => rfl
  | .un t => by simp [headsOf, Tm.size, headsOf_length t]
  | .bin t u => by simp [headsOf, Tm.size, headsOf_length t, headsOf_length u]

theorem Tm.leaf_inv {P : Addr → Array Value → Prop} {v : Value} {c : Str} (x : Tv P v (Tm.leaf c).py) : ∃ a k, v = .ref a ∧ P a #[.str c k] := by
  cases x with
  | one hx hy => cases hy; exact ⟨_, _, rfl, hx⟩
theorem Tm.un_inv {P : Addr → Array Value → Prop} {v : Value} {t : Tm} (x : Tv P v (Tm.un t).py) : ∃ a k u, v = .ref a ∧ P a #[.str (Str.ofString "f") k, u] ∧ Tv P u t.py := by
  cases x with
  | two hx hy hz => cases hy; exact ⟨_, _, _, rfl, hx, hz⟩
theorem Tm.bin_inv {P : Addr → Array Value → Prop} {v : Value} {t t' : Tm} (x : Tv P v (Tm.bin t t').py) : ∃ a k u u', v = .ref a ∧ P a #[.str (Str.ofString "g") k, u, u'] ∧ Tv P u t.py ∧ Tv P u' t'.py := by
  cases x with
  | three hx hy hz hw => cases hy; exact ⟨_, _, _, _, rfl, hx, hz, hw⟩

/-- a fresh list of data -/
def ListAt (h : Heap) (l : Addr) (ds : List PyData) : Prop := ∃ vs n, h.get? l = some (listOf vs.toArray n) ∧ TvL (IsTup h) vs ds

def HeadsC (prog : Program) (w : World) (p : Program) (loose : List Str) (mean : ExcName → Option Value) (mg mb : Str → Option Value) (t : Tm) : Prop :=
  ∀ (A : Around) (s : Shared) (v : Value) (E : Value → Shared → Prop) (Q : Value → Shared → Prop),
    (hd.heap_1 w.params).In s.heap → Top p loose mean mg mb s.heap → Rm A (t.height + 1) → t.size ≤ 100 → Tv (IsTup s.heap) v t.py →
    (∀ l h' tk', s.heap.get? l = none → Keep s.heap h' → ListAt h' l (headsOf t) → Q (.ref l) { s with heap := h', toks := tk' }) →
    wpAny (model prog w) A (call (.ref 334) [v]) Q E s

section
variable {prog : Program} {w : World} {A : Around} {s : Shared} {h₀ : Heap} {L : Addr} {m : Str → Option Value} {news : List (Addr × Obj)} {gl : Obj → List (Addr × Obj)} {p : Program} {loose : List Str} {mean : ExcName → Option Value} {mg mb : Str → Option Value}
    {d r : Addr} {o : Obj} {vs : List Value} {ns : List Int} {at' : Int} {E : Value → Shared → Prop} {Q : Value → Shared → Prop}



theorem updOf {d : Addr} {o o' : Obj} {post : List (Addr × Obj)} : ∀ {pre : List (Addr × Obj)}, (∀ p ∈ pre, p.1 ≠ d) → (∀ p ∈ post, p.1 ≠ d) → Upd d o o' (pre ++ (d, o) :: post) (pre ++ (d, o') :: post)
  | [], _, b => .head b
  | _ :: _, a, b => .tail (a _ (.head _)) (updOf (fun q hq => a q (.tail _ hq)) b)
/-- a list's extend, its items not written -/
theorem ext_use {D b : Addr} {v1 v2 : List Value} {n n2 : Nat} {Q : Value → Shared → Prop} (F : Fr h₀ L s.heap m) (N : News h₀ L s.heap news) (hb : (b, PySem.W.listOf v2.toArray n2) ∈ news) (hne : v2.length ≠ 0)
    (U : UpdF D (PySem.W.listOf v1.toArray n) news gl) (hz : v1.length + v2.length ≤ 1000)
    (h : ∀ h', Fr h₀ L h' m → News h₀ L h' (gl (PySem.W.listOf (v1 ++ v2).toArray (n + 1))) → Q .none { s with heap := h' }) : wpAny (model prog w) A (call (.builtin "list.extend") [.ref D, .ref b]) Q E s := by
  obtain ⟨pre, post, rfl, hg, a, c⟩ := U.split
  have hs : (1000 : Nat) ≤ sizeLine := by decide
  have hl1 : v1.toArray.size = v1.length := List.size_toArray
  have hl2 : v2.toArray.size = v2.length := List.size_toArray
  refine kl_extend F N hb (by simp : v1.toArray.toList ++ v2.toArray.toList = v1 ++ v2) (by simpa using hne) (U := ?_) ?_ (by simp; omega) (by rw [hl1, hl2]; omega) (n := n) (l := v1 ++ v2) (news' := pre ++ (D, PySem.W.listOf (v1 ++ v2).toArray (n + 1)) :: post) ?_
  · exact updOf a c
  · have : Builtin.List.listTooLong (v1.toArray.size + v2.toArray.size) = false := by
      unfold Builtin.List.listTooLong
      rw [hl1, hl2]
      exact decide_eq_false (by omega)
    rw [this, Bool.and_false]
    exact Bool.false_ne_true
  · intro h' F' N'
    exact h h' F' (by rw [hg]; exact N')

theorem heads_use {t : Tm} {v : Value} (C : HeadsC prog w p loose mean mg mb t)
    (F : Fr h₀ L s.heap m) (X : (hd.heap_1 w.params).In h₀) (T : Top p loose mean mg mb h₀) (N : News h₀ L s.heap news) (R : Rm A (t.height + 1)) (hsz : t.size ≤ 100) (hv : Tv (IsTup s.heap) v t.py)
    (h : ∀ l h' tk' vs n tl, Fr h₀ L h' m → News h₀ L h' ((l, PySem.W.listOf vs.toArray n) :: (news ++ tl)) → (∀ p ∈ news, p.1 ≠ l) → AllTup tl → vs.length = t.size ∧ 1 ≤ t.size → TvL (Tp h₀ tl) vs (headsOf t) → Q (.ref l) { s with heap := h', toks := tk' }) :
    wpAny (model prog w) A (call (.ref 334) [v]) Q E s := by
  refine C _ _ _ _ _ (X.keeps F.keep) (T.keeps F.keep) R hsz hv fun l h' tk' hl k ⟨vs, n, ho, hvs⟩ => ?_
  have F' := Fr.byKeep F k
  have N' := News.byKeep N k
  have ne : ∀ b o, s.heap.get? b = some o → b ≠ l := fun b o e q => by rw [q, hl] at e; cases e
  refine h l h' tk' vs n (tups h₀ h') F' (fun q hq => ?_) (fun p hp => ne _ _ (N p hp).1) (allTup_tups _ _) ⟨hvs.length.trans (headsOf_length t), t.size_pos⟩ (hvs.mono fun a vs y => tp_tups F' y)
  rcases List.mem_cons.mp hq with rfl | hq
  · refine ⟨ho, fun e => ?_, ?_⟩
    · obtain ⟨oL, es, ep, hL, _⟩ := F.ns
      exact ne _ _ hL e.symm
    · cases e : h₀.get? l with
      | none => rfl
      | some o => rw [F.keep _ _ e] at hl; cases hl
  · exact News.app N' (news_tups F') q hq
end
theorem Tv.at {h₀ h : Heap} {L : Addr} {m : Str → Option Value} {news tl : List (Addr × Obj)} {v : Value} {d : PyData} (x : Tv (Tp h₀ tl) v d) (F : Fr h₀ L h m) (N : News h₀ L h news) (k : ∀ p ∈ tl, p ∈ news) : Tv (IsTup h) v d := x.mono fun _ _ y => Tp.tup F N k y
theorem Tv.at0 {h₀ h : Heap} {L : Addr} {m : Str → Option Value} {v : Value} {d : PyData} (F : Fr h₀ L h m) (x : Tv (IsTup h₀) v d) : Tv (IsTup h) v d := x.mono fun _ _ y => y.keeps F.keep
theorem TvL.at {h₀ h : Heap} {L : Addr} {m : Str → Option Value} {news tl : List (Addr × Obj)} {v : List Value} {d : List PyData} (x : TvL (Tp h₀ tl) v d) (F : Fr h₀ L h m) (N : News h₀ L h news) (k : ∀ p ∈ tl, p ∈ news) : TvL (IsTup h) v d := x.mono fun _ _ y => Tp.tup F N k y
theorem w29 : True := by
  k_with "M call ref" => (case' FRESH => ((k_here; (with_reducible show wpAny _ _ (call (Value.ref 334) _ _) _ _ _); k_dflt (refine' heads_use ?C ?F ?X ?T ?N ?R ?hz ?hv ?_; (case hv => first | exact Tv.at0 (by k_asm) (by assumption) | exact Tv.at (by assumption) (by k_asm) (by k_asm) (by k_all)); (case C => assumption); (case F => k_asm); (case X => k_asm); (case T => k_asm); (case N => k_asm); (case R => first | exact Rm.deeper (by assumption) | exact Rm.le (Rm.deeper (by assumption)) (by omega)); (case hz => first | assumption | omega); k_whole); intro l' h' tk' vs' n' tl' F' N' l1 hA' hn' hd'; (try simp only [List.cons_append, List.nil_append] at N'))))
  trivial
theorem w30 : True := by
  k_with "M call builtin:list.extend" => (case' FRESH => ((k_here; (with_reducible show wpAny _ _ (call (Value.builtin _) [Value.ref _, Value.ref _]) _ _ _); k_dflt (refine' ext_use ?F ?N ?b ?ne ?U ?z ?_; (case F => k_asm); (case N => k_asm); (case b => k_mem); (case U => k_updF); (case ne => omega); (case z => first | omega | (simp only [List.length_append, List.length_cons, List.length_nil]; omega))); intro h' F' N'; (try dsimp only at N'))))
  trivial
section
variable {prog : Program} {w : World} {p : Program} {loose : List Str} {mean : ExcName → Option Value} {mg mb : Str → Option Value}

theorem fresh_of {h₀ h : Heap} {L a : Addr} {o : Obj} {news : List (Addr × Obj)} (N : News h₀ L h news) (k : (a, o) ∈ news) : h₀.get? a = none := (N _ k).2.2
set_option maxHeartbeats 4000000 in
theorem heads_leaf {c : Str} : HeadsC prog w p loose mean mg mb (.leaf c) := by
  intro A s v E Q X T R hsz hv h
  obtain ⟨a, k, rfl, hx⟩ := Tm.leaf_inv hv
  refine wpAny_call ?_
  k_dflt (refine' enter0 (binds := [(Str.ofString "term", .ref a)]) X T ?ho ?hcd R.room ?hb ?hl ?_ ?c1 ?c2 ?c3 ?c4)
  case ho => k_dflt k_is
  case hcd => k_dflt k_is
  case hb => exact BindsTo.of_eq rfl
  case hl => exact locs rfl
  case c1 => rfl
  case c2 => rfl
  case c3 => rfl
  case c4 => decide
  intro L h₁ tk1 F N
  refine (?_ : let mM' := _; let aA' := _; wpAny mM' aA' _ _ _ _); intro mM' aA'
  k_fold
  k_steps
  rename Fr _ _ _ _ => F9
  rename News _ _ _ _ => N9
  refine h _ _ _ (fresh_of N9 (by k_mem)) (Fr.keep F9) ⟨_, _, News.at N9 (by k_mem), ?_⟩
  exact .cons (.two ⟨_, News.at N9 (by k_mem), rfl, _, rfl⟩ (.str _ _) (.int _ _)) .nil
set_option maxHeartbeats 4000000 in
theorem heads_un {t : Tm} (ih : HeadsC prog w p loose mean mg mb t) : HeadsC prog w p loose mean mg mb (.un t) := by
  intro A s v E Q X T R hsz hv h
  obtain ⟨a, k, u, rfl, hx, hu⟩ := Tm.un_inv hv
  have hsz' : t.size + 1 ≤ 100 := hsz
  have R' : Rm A (t.height + 1 + 1) := R
  refine wpAny_call ?_
  k_dflt (refine' enter0 (binds := [(Str.ofString "term", .ref a)]) X T ?ho ?hcd R.room ?hb ?hl ?_ ?c1 ?c2 ?c3 ?c4)
  case ho => k_dflt k_is
  case hcd => k_dflt k_is
  case hb => exact BindsTo.of_eq rfl
  case hl => exact locs rfl
  case c1 => rfl
  case c2 => rfl
  case c3 => rfl
  case c4 => decide
  intro L h₁ tk1 F N
  refine (?_ : let mM' := _; let aA' := _; wpAny mM' aA' _ _ _ _); intro mM' aA'
  k_fold
  k_steps
  rename Fr _ _ _ _ => F9
  rename News _ _ _ _ => N9
  refine h _ _ _ (fresh_of N9 (by k_mem)) (Fr.keep F9) ⟨_, _, News.at N9 (by k_mem), ?_⟩
  exact .cons (.two ⟨_, News.at N9 (by k_mem), rfl, _, rfl⟩ (.str _ _) (.int _ _)) (TvL.at (by assumption) F9 N9 (by k_all))
set_option maxHeartbeats 4000000 in
theorem heads_bin {t u : Tm} (ih : HeadsC prog w p loose mean mg mb t) (ih' : HeadsC prog w p loose mean mg mb u) : HeadsC prog w p loose mean mg mb (.bin t u) := by
  intro A s v E Q X T R hsz hv h
  obtain ⟨a, k, v1, v2, rfl, hx, hu, hu'⟩ := Tm.bin_inv hv
  have hs1 : t.size ≤ 100 := by have : t.size + u.size + 1 ≤ 100 := hsz; omega
  have hs2 : u.size ≤ 100 := by have : t.size + u.size + 1 ≤ 100 := hsz; omega
  have R1 : Rm A (t.height + 1 + 1) := Rm.le R (by simp only [Tm.height]; omega)
  have R2 : Rm A (u.height + 1 + 1) := Rm.le R (by simp only [Tm.height]; omega)
  refine wpAny_call ?_
  k_dflt (refine' enter0 (binds := [(Str.ofString "term", .ref a)]) X T ?ho ?hcd R.room ?hb ?hl ?_ ?c1 ?c2 ?c3 ?c4)
  case ho => k_dflt k_is
  case hcd => k_dflt k_is
  case hb => exact BindsTo.of_eq rfl
  case hl => exact locs rfl
  case c1 => rfl
  case c2 => rfl
  case c3 => rfl
  case c4 => decide
  intro L h₁ tk1 F N
  refine (?_ : let mM' := _; let aA' := _; wpAny mM' aA' _ _ _ _); intro mM' aA'
  k_fold
  k_steps
  rename Fr _ _ _ _ => F9
  rename News _ _ _ _ => N9
  refine h _ _ _ (fresh_of N9 (by k_mem)) (Fr.keep F9) ⟨_, _, News.at N9 (by k_mem), ?_⟩
  exact .cons (.two ⟨_, News.at N9 (by k_mem), rfl, _, rfl⟩ (.str _ _) (.int _ _)) (.append (TvL.at (by assumption) F9 N9 (by k_all)) (TvL.at (by assumption) F9 N9 (by k_all)))
theorem heads_all : ∀ t, HeadsC prog w p loose mean mg mb t
  | .leaf _ => heads_leaf
  | .un t => heads_un (heads_all t)
  | .bin t u => heads_bin (heads_all t) (heads_all u)
end
end
/-! Comp -/
section
open PyProof.Rows.LCg

/-! a list comprehension over a written tuple or list, turn by turn -/
inductive Asg : Expr → Heap → Value → List (Str × Value) → Prop
  | name (x px h v) : Asg (.Name x px) h v [(x, v)]
  | pair {a pa b pb kk tp h T x y} : IsTup h T #[x, y] → (a == b) = false → Asg (.Tuple [.Name a pa, .Name b pb] kk tp) h (.ref T) [(a, x), (b, y)]
def nameOf : Expr → Option Str
  | .Name x _ => some x
  | _ => none
def tgtNames : Expr → List Expr
  | .Tuple es _ _ => es
  | e => [e]
def tgtOk (scope : Scope) (e : Expr) : Bool := (tgtNames e).all fun e => (nameOf e).any fun x => scope.names.lookup x == some .local
def Has (m : Str → Option Value) : List (Str × Value) → Prop
  | [] => True
  | p :: r => m p.1 = some p.2 ∧ Has m r

section
variable {prog : Program} {w : World} {A : Around} {E : Value → Shared → Prop} {s : Shared} {h₀ : Heap} {L : Addr} {m : Str → Option Value} {env : Env} {news : List (Addr × Obj)}

theorem asg_use {target : Expr} {v : Value} {bs : List (Str × Value)} {scope : Scope} {cl : List (Str × Addr)} {C : Addr} {Q : Unit → Shared → Prop} (a : Asg target s.heap v bs) (hok : tgtOk scope target = true) (hkind : scope.kind = .function) (hh : A.handled = none) (hn : s.heap.Ns C m)
    (h : ∀ (h' : Heap) (tk : Nat) m₂, h'.Ns C m₂ → Has m₂ bs → (∀ c o, c ≠ C → s.heap.get? c = some o → h'.get? c = some o) → Q () { s with heap := h', toks := tk }) :
    wpAny (model prog w) A (assign target (compEnvC scope cl C env) v) Q E s := by
  cases a with
  | name x px =>
    have hx : scope.names.lookup x = some .local := beq_iff_eq.mp (Bool.and_eq_true_iff.mp (show ((scope.names.lookup x == some .local) && true) = true from hok)).1
    refine wpAny_assign_Name (wpAny_storeName_local (lookup_relabel_local hx) hn (fun h₃ hn₃ hs₃ => ?_) (by simp [compEnvC, relabel, hkind]))
    exact h h₃ _ _ hn₃ ⟨by simp, trivial⟩ fun c o hc e => hs₃.extBut c o hc e
  | @pair a pa b pb kk tp h T x y ht hab =>
    have hx0 := Bool.and_eq_true_iff.mp (show ((scope.names.lookup a == some .local) && ((scope.names.lookup b == some .local) && true)) = true from hok)
    have hx : scope.names.lookup a = some .local ∧ scope.names.lookup b = some .local := ⟨beq_iff_eq.mp hx0.1, beq_iff_eq.mp (Bool.and_eq_true_iff.mp hx0.2).1⟩
    have hne : ¬ a = b := fun q => by rw [q] at hab; simp at hab
    exact kcp_assign (env := compEnvC scope cl C env) hh ht (lookup_relabel_local hx.1) (lookup_relabel_local hx.2) (by simp [compEnvC, relabel, hkind]) hn fun h' tk hn' k => h h' tk _ hn' ⟨by simp [hne], by simp, trivial⟩ k

def cTested (prog : Program) (w : World) (A : Around) (c : Option Expr) (cenv : Env) (K1 K0 : Shared → Prop) (E : Value → Shared → Prop) (s : Shared) : Prop := match c with
  | none => K1 s
  | some c => wpAny (model prog w) A (isTrue c cenv (eval c cenv)) (fun ok s₃ => if ok = true then K1 s₃ else K0 s₃) E s

inductive CEnd (h₀ : Heap) (L : Addr) (m : Str → Option Value) (s : Shared) (I : Addr) (oI : Obj) (C : Addr) (oC : Obj) (D : Addr) (oD : Obj) (kt : Heap → Prop) (K : List (Addr × Obj) → Prop) (s₂ : Shared) : Prop
  | mk (h' : Heap) (tk : Nat) (news' : List (Addr × Obj)) (e : s₂ = { s with heap := h', toks := tk }) (F : Fr h₀ L h' m) (N : News h₀ L h' ((I, oI) :: (C, oC) :: (D, oD) :: news')) (n1 : ∀ p ∈ news', p.1 ≠ I) (n2 : ∀ p ∈ news', p.1 ≠ C) (n3 : ∀ p ∈ news', p.1 ≠ D) (k : kt h') (r : K news') : CEnd h₀ L m s I oI C oC D oD kt K s₂
theorem CEnd.intro {h' : Heap} {I C D : Addr} {oI oC oD : Obj} {kt : Heap → Prop} {K : List (Addr × Obj) → Prop} {l l1 l2 news' : List (Addr × Obj)} {tk : Nat}
    (F : Fr h₀ L h' m) (N : News h₀ L h' l) (d1 : Drop (I, oI) l l1) (d2 : Drop (C, oC) l1 l2) (d3 : Drop (D, oD) l2 news') (n1 : ∀ p ∈ news', p.1 ≠ I) (n2 : ∀ p ∈ news', p.1 ≠ C) (n3 : ∀ p ∈ news', p.1 ≠ D) (k : kt h') (r : K news') :
    CEnd h₀ L m s I oI C oC D oD kt K { s with heap := h', toks := tk } :=
  ⟨h', tk, news', rfl, F, fun p hp => by
    rcases List.mem_cons.mp hp with rfl | hp
    · exact N _ d1.mem.1
    rcases List.mem_cons.mp hp with rfl | hp
    · exact N _ (d1.mem.2 _ d2.mem.1)
    rcases List.mem_cons.mp hp with rfl | hp
    · exact N _ (d1.mem.2 _ (d2.mem.2 _ d3.mem.1))
    · exact N _ (d1.mem.2 _ (d2.mem.2 _ (d3.mem.2 _ hp))), n1, n2, n3, k, r⟩

def CRest (prog : Program) (w : World) (A : Around) (h₀ : Heap) (L : Addr) (m : Str → Option Value) (env : Env) (target elt : Expr) (c : Option Expr) (scope : Scope) (cl : List (Str × Addr)) (s : Shared) (kt : Heap → Prop) (Fin : List Value → List (Addr × Obj) → Prop) :
    List Value → List Value → List (Addr × Obj) → Prop
  | [], ys, news => Fin ys news
  | v :: r, ys, news => ∀ (I : Addr) (oI : Obj) (D : Addr) (h : Heap), tupObj oI = false → Fr h₀ L h m → News h₀ L h ((I, oI) :: (D, lst ys) :: news) → ∃ bs, Asg target h v bs ∧
      ∀ (C : Addr) (oC : Obj) m₂ h tk (E' : Value → Shared → Prop), NsObj oC m₂ → Has m₂ bs → tupObj oC = false → Fr h₀ L h m → News h₀ L h ((I, oI) :: (C, oC) :: (D, lst ys) :: news) → (∀ p ∈ news, p.1 ≠ I) → (∀ p ∈ news, p.1 ≠ C) → (∀ p ∈ news, p.1 ≠ D) → ((@Ne Nat I C) ∧ (@Ne Nat I D) ∧ (@Ne Nat C D)) →
        cTested prog w A c (compEnvC scope cl C env)
          (fun s₃ => wpAny (model prog w) A (eval elt (compEnvC scope cl C env)) (fun y => CEnd h₀ L m { s with heap := h, toks := tk } I oI C oC D (lst ys) kt (fun news' => CRest prog w A h₀ L m env target elt c scope cl s kt Fin r (ys ++ [y]) news')) E' s₃)
          (CEnd h₀ L m { s with heap := h, toks := tk } I oI C oC D (lst ys) kt (fun news' => CRest prog w A h₀ L m env target elt c scope cl s kt Fin r ys news')) E' { s with heap := h, toks := tk }

theorem nsObj_tup {o : Obj} {m : Str → Option Value} (x : NsObj o m) : tupObj o = false := by
  obtain ⟨es, ep, hd, _⟩ := x
  unfold tupObj; rw [hd]; simp

theorem cg_loop {elt target iter : Expr} {c : Option Expr} {scope : Scope} {pos : Pos} {it acc : Value} {env : Env} {R : Result → Shared → Prop} (I : Nat → Shared → Prop)
    (turn : ∀ n s, I n s → wpAny (model prog w) A (pyNext it) (fun r s₁ => match r with
      | none => R (.ok .next) s₁
      | some v => wpAny (model prog w) A (letOwnedTupleGo target it v) (fun _ s₀ => wpAny (model prog w) A (assign target env v) (fun _ s₂ =>
          cTested prog w A c env (fun s₃ => wpAny (model prog w) A (eval elt env) (fun x s₄ =>
            wpAny (model prog w) A (call (.builtin "list.append") [acc, x]) (fun _ s₅ => ∃ m, m < n ∧ I m s₅) (notedBy (model prog w) A env fun e s' => R (.error e) s') s₄) (notedBy (model prog w) A env fun e s' => R (.error e) s') s₃)
            (fun s₃ => ∃ m, m < n ∧ I m s₃) (notedBy (model prog w) A env fun e s' => R (.error e) s') s₂)
          (notedBy (model prog w) A env fun e s' => R (.error e) s') s₀) (notedBy (model prog w) A env fun e s' => R (.error e) s') s₁) (notedBy (model prog w) A env fun e s' => R (.error e) s') s)
    (n : Nat) (h : I n s) : codeAny (model prog w) A (.compLoop (.ListComp elt [⟨target, iter, c.toList, 0⟩] scope pos) 0 it acc env) R s := by
  cases c with
  | none => exact kcp_loop I turn n h
  | some c => exact kct_loop I turn n h

inductive CompG (prog : Program) (w : World) (A : Around) (h₀ : Heap) (L : Addr) (m : Str → Option Value) (env : Env) (target elt : Expr) (c : Option Expr) (scope : Scope) (cl : List (Str × Addr)) (Fin : Shared → List Value → List (Addr × Obj) → Prop) (it : Value) (s₂ : Shared) : Prop
  | mk (I : Addr) (fp : List Addr) (vs : List Value) (kt : Heap → Prop) (P : Nat → Value → Heap → Heap → Prop) (St : Nat → Heap → Prop) (news : List (Addr × Obj))
    (e : it = .ref I) (hh : A.handled = none) (S : Src prog w A target I fp [I] vs.length P St) (hself : ∀ i (s : Shared) (Q : Value → Shared → Prop) (E : Value → Shared → Prop), St i s.heap → Q (.ref I) s → wpAny (model prog w) A (pyIter (.ref I)) Q E s)
    (hsz : vs.length ≤ sizeLine) (hP : ∀ i v h h', P i v h h' → vs[i]? = some v) (hfp : ∀ h h', kt h → kt h' → ∀ oI, h.get? I = some oI → h'.get? I = some oI → ∀ i, St i h → St i h')
    (hkt : ∀ h h', (∀ b o, b ∈ fp → b ≠ I → h.get? b = some o → h'.get? b = some o) → kt h → kt h') (hIo : ∀ i h, St i h → ∃ oI, h.get? I = some oI ∧ tupObj oI = false)
    (hst : St 0 s₂.heap) (hk0 : kt s₂.heap) (F : Fr h₀ L s₂.heap m) (N : News h₀ L s₂.heap news) (hIL : L ≠ I) (hI₀ : h₀.get? I = none) (off : ∀ p ∈ news, p.1 ≠ I) (hfpb : ∀ b ∈ fp, b < s₂.heap.objs.size) (hIf : I ∈ fp)
    (R : CRest prog w A h₀ L m env target elt c scope cl s₂ kt (Fin s₂) vs [] news) : CompG prog w A h₀ L m env target elt c scope cl Fin it s₂

inductive CInv (h₀ : Heap) (L : Addr) (m : Str → Option Value) (s₂ : Shared) (vs : List Value) (I C D : Addr) (St : Nat → Heap → Prop) (kt : Heap → Prop) (R : List Value → List Value → List (Addr × Obj) → Prop) (k : Nat) (s' : Shared) : Prop
  | mk (h' : Heap) (tk i : Nat) (ys : List Value) (m' : Str → Option Value) (news' : List (Addr × Obj)) (e1 : s' = { s₂ with heap := h', toks := tk }) (hi : i ≤ vs.length) (e2 : k = vs.length + 1 - i) (hyl : ys.length ≤ i) (hst : St i h') (hk : kt h') (F : Fr h₀ L h' m) (hn : h'.Ns C m')
    (N : News h₀ L h' ((D, lst ys) :: news')) (o1 : ∀ p ∈ news', p.1 ≠ I) (o2 : ∀ p ∈ news', p.1 ≠ C) (o3 : ∀ p ∈ news', p.1 ≠ D) (r : R (vs.drop i) ys news') : CInv h₀ L m s₂ vs I C D St kt R k s'
theorem newsCons {h : Heap} {a : Addr} {o : Obj} {r : List (Addr × Obj)} (ho : h.get? a = some o) (hL : a ≠ L) (h0 : h₀.get? a = none) (N : News h₀ L h r) : News h₀ L h ((a, o) :: r) := fun q hq => by
  rcases List.mem_cons.mp hq with rfl | hq
  · exact ⟨ho, hL, h0⟩
  · exact N q hq
theorem comp_block {elt target iter : Expr} {c : Option Expr} {scope : Scope} {cl : List (Str × Addr)} {pos : Pos} {s₂ : Shared} {it : Value} {Fin : Shared → List Value → List (Addr × Obj) → Prop} {RR : Value → Addr → Result → Shared → Prop}
    (G : CompG prog w A h₀ L m env target elt c scope cl Fin it s₂)
    (hcell : ∀ y ∈ scope.names, y.2 ≠ .cell) (hkind : scope.kind = .function) (hok : tgtOk scope target = true)
    (hRR : ∀ D C h tk m' ys news', Fr h₀ L h m → News h₀ L h ((D, lst ys) :: news') → (∀ p ∈ news', p.1 ≠ D) → h.Ns C m' → h₀.get? C = none → h₀.get? D = none → C ≠ L → D ≠ L → C ≠ D → (∀ p ∈ news', p.1 ≠ C) → Fin s₂ ys news' → RR (.ref D) C (.ok .next) { s₂ with heap := h, toks := tk }) :
    wpAny (model prog w) A (newList []) (fun acc s₃ => wpAny (model prog w) A (newFunctionEnv scope env.globals cl [] env.qual none .none (some env)) (fun cenv s₄ =>
      codeAny (model prog w) A (.compStart (.ListComp elt [⟨target, iter, c.toList, 0⟩] scope pos) 0 it acc { cenv with scope := relabel scope env }) (RR acc cenv.locals) s₄) E s₃) E s₂ := by
  refine hideG fun GG eGG => ?_
  obtain ⟨I, fp, vs, kt, P, St, news, hit, hh, S, hself, hsz, hP, hfp, hkt, hIo, hst, hk0, F, N, hIL, hI₀, off, hfpb, hIf, R⟩ := G
  refine eGG ?_
  clear eGG
  subst hit
  refine wpAny_newObj_type (wpAny_newFunctionEnv hcell (by intro y hy; simp at hy) (fun h₁ hns₁ hsb₁ => ?_) hkind)
  dsimp only at hns₁ hsb₁ ⊢
  generalize hH2 : s₂.heap.push { cls := .type "list", dict := none, data := .seq ([] : List Value).toArray } = H2 at hns₁ hsb₁ ⊢
  have hC : H2.objs.size = s₂.heap.objs.size + 1 := by rw [← hH2, Heap.size_push]
  have hDC : s₂.heap.objs.size ≠ H2.objs.size := by rw [hC]; exact Nat.ne_of_lt (Nat.lt_succ_self _)
  have below : ∀ b, b < s₂.heap.objs.size → b ≠ H2.objs.size ∧ b ≠ s₂.heap.objs.size := fun b hb => ⟨by rw [hC]; exact Nat.ne_of_lt (Nat.lt_succ_of_lt hb), Nat.ne_of_lt hb⟩
  have hIlt : I < s₂.heap.objs.size := hfpb _ hIf
  have old : ∀ b o, s₂.heap.get? b = some o → h₁.get? b = some o := fun b o e => hsb₁.extBut b o (below b (Heap.lt_size e)).1 (Heap.get?_push_of_some _ (hH2 ▸ Heap.get?_push_of_some _ e))
  have hacc : h₁.get? s₂.heap.objs.size = some (lst []) := hsb₁.extBut _ _ hDC (Heap.get?_push_of_some _ (hH2 ▸ Heap.get?_push_size _ rfl))
  have hst₁ : St 0 h₁ := S.frame _ _ _ hst fun b _ o e => old b o e
  have hk₁ : kt h₁ := hkt _ _ (fun b o _ _ e => old b o e) hk0
  have fresh₀ : ∀ a, s₂.heap.objs.size ≤ a → h₀.get? a = none := fun a ha => by
    cases e : h₀.get? a with
    | none => rfl
    | some o' => exact absurd (Heap.lt_size (F.keep _ _ e)) (Nat.not_lt.mpr ha)
  have hD₀ : h₀.get? s₂.heap.objs.size = none := fresh₀ _ (Nat.le_refl _)
  have hC₀ : h₀.get? H2.objs.size = none := fresh₀ _ (by rw [hC]; exact Nat.le_succ _)
  have hLlt : L < s₂.heap.objs.size := F.ns.lt
  have hDL : s₂.heap.objs.size ≠ L := Ne.symm (below L hLlt).2
  have hCL : H2.objs.size ≠ L := Ne.symm (below L hLlt).1
  have hCI : I ≠ H2.objs.size := (below I hIlt).1
  have hDI : I ≠ s₂.heap.objs.size := (below I hIlt).2
  have hCf : ∀ b ∈ fp, b ≠ H2.objs.size := fun b hb => (below b (hfpb b hb)).1
  have hDf : ∀ b ∈ fp, b ≠ s₂.heap.objs.size := fun b hb => (below b (hfpb b hb)).2
  have loop : ∀ s₃ : Shared, s₃ = { s₂ with heap := h₁, toks := s₂.toks + ([] : List (Str × Value)).length } →
      codeAny (model prog w) A (.compLoop (.ListComp elt [⟨target, iter, c.toList, 0⟩] scope pos) 0 (.ref I) (.ref s₂.heap.objs.size) (compEnvC scope cl H2.objs.size env))
        (RR (.ref s₂.heap.objs.size) H2.objs.size) s₃ := by
    rintro s₃ rfl
    refine cg_loop
      (CInv h₀ L m s₂ vs I H2.objs.size s₂.heap.objs.size St kt (CRest prog w A h₀ L m env target elt c scope cl s₂ kt (Fin s₂))) ?_ (vs.length + 1)
      ⟨h₁, _, 0, [], _, news, rfl, Nat.zero_le _, rfl, Nat.le_refl _, hst₁, hk₁, F.keeps old, hns₁, fun p hp => ?_, off, fun p hp => (below _ (Heap.lt_size (N p hp).1)).1, fun p hp => (below _ (Heap.lt_size (N p hp).1)).2, by rw [List.drop_zero]; exact R⟩
    · intro k s' hx
      refine hideG fun GG eGG => ?_
      obtain ⟨h', tk, i, ys, m', news', e1, hi, e2, hyl, hst', hk', F', hn', N', o1, o2, o3, R'⟩ := hx
      refine eGG ?_
      clear eGG
      subst e1 e2
      by_cases hlt : i < vs.length
      · refine S.step i { s₂ with heap := h', toks := tk } _ _ _ hlt hst' fun v h₂ tk₂ hPv hst₂ kb₂ => ?_
        (refine (?_ : let q' : _ → Shared → Prop := _; let e' : Value → Shared → Prop := _; wpAny _ _ _ q' e' _)); intro q' e'
        have hv := hP i v _ _ hPv
        have hdrop : vs.drop i = v :: vs.drop (i + 1) := by
          rw [List.drop_eq_getElem_cons hlt]
          congr 1
          exact Option.some.inj ((List.getElem?_eq_getElem hlt).symm.trans hv)
        rw [hdrop] at R'
        have up₂ : ∀ b o, b ≠ I → h'.get? b = some o → h₂.get? b = some o := fun b o hb e => kb₂ b o (fun q => hb (List.mem_singleton.mp q)) e
        obtain ⟨oI₂, heI₂, htI₂⟩ := hIo _ _ hst₂
        have F₂ : Fr h₀ L h₂ m := ⟨F'.ns.at' fun o e => up₂ _ o hIL e, fun b o e => up₂ b o (fun q => by rw [q, hI₀] at e; cases e) (F'.keep b o e), F'.above⟩
        have N₂ : News h₀ L h₂ ((I, oI₂) :: (s₂.heap.objs.size, lst ys) :: news') := newsCons heI₂ (Ne.symm hIL) hI₀ (newsCons (up₂ _ _ (Ne.symm hDI) (N' _ (.head _)).1) hDL hD₀ fun q hq => ⟨up₂ _ _ (o1 q hq) (N' q (.tail _ hq)).1, (N' q (.tail _ hq)).2⟩)
        obtain ⟨bs, hasg, R''⟩ := R' I oI₂ s₂.heap.objs.size h₂ htI₂ F₂ N₂
        refine asg_use (s := { s₂ with heap := h₂, toks := tk₂ }) hasg hok hkind hh (hn'.at' fun o e => up₂ _ o (Ne.symm hCI) e) fun h₄ tk₄ m₄ hn₄ hbs₄ hs₄ => ?_
        have up : ∀ b o, b ≠ I → b ≠ H2.objs.size → h'.get? b = some o → h₄.get? b = some o := fun b o h1 h2 e => hs₄ b o h2 (up₂ b o h1 e)
        have heI : h₄.get? I = some oI₂ := hs₄ I _ hCI heI₂
        have hk₂ : kt h₂ := hkt _ _ (fun b o _ h1 e => up₂ b o h1 e) hk'
        have hk₄ : kt h₄ := hkt _ _ (fun b o h1 _ e => hs₄ b o (hCf b h1) e) hk₂
        have hst₄ : St (i + 1) h₄ := hfp _ _ hk₂ hk₄ oI₂ heI₂ heI _ hst₂
        obtain ⟨oC, heC, hoC⟩ := ns_obj hn₄
        have F₄ : Fr h₀ L h₄ m := ⟨F'.ns.at' fun o e => up _ o hIL (Ne.symm hCL) e, fun b o e => up b o (fun q => by rw [q, hI₀] at e; cases e) (fun q => by rw [q, hC₀] at e; cases e) (F'.keep b o e), F'.above⟩
        have N₄ : News h₀ L h₄ ((I, oI₂) :: (H2.objs.size, oC) :: (s₂.heap.objs.size, lst ys) :: news') := newsCons heI (Ne.symm hIL) hI₀ (newsCons heC hCL hC₀ (newsCons (up _ _ (Ne.symm hDI) hDC (N' _ (.head _)).1) hDL hD₀ fun q hq => ⟨up _ _ (o1 q hq) (o2 q hq) (N' q (.tail _ hq)).1, (N' q (.tail _ hq)).2⟩))
        have fin : ∀ (ys' : List Value) (h₅ : Heap) (tk₅ : Nat) (news₅ : List (Addr × Obj)), ys'.length ≤ i + 1 → Fr h₀ L h₅ m → News h₀ L h₅ ((I, oI₂) :: (H2.objs.size, oC) :: (s₂.heap.objs.size, lst ys') :: news₅) → (∀ p ∈ news₅, p.1 ≠ I) → (∀ p ∈ news₅, p.1 ≠ H2.objs.size) → (∀ p ∈ news₅, p.1 ≠ s₂.heap.objs.size) → kt h₅ →
            CRest prog w A h₀ L m env target elt c scope cl s₂ kt (Fin s₂) (vs.drop (i + 1)) ys' news₅ →
            ∃ q', q' < vs.length + 1 - i ∧ CInv h₀ L m s₂ vs I H2.objs.size s₂.heap.objs.size St kt (CRest prog w A h₀ L m env target elt c scope cl s₂ kt (Fin s₂)) q' { s₂ with heap := h₅, toks := tk₅ } := by
          intro ys' h₅ tk₅ news₅ hl F₅ N₅ p1 p2 p3 k₅ R₅
          have zI := (N₅ (I, oI₂) List.mem_cons_self).1
          have zC := (N₅ (H2.objs.size, oC) (List.mem_cons_of_mem _ List.mem_cons_self)).1
          exact ⟨vs.length + 1 - (i + 1), by omega, h₅, tk₅, i + 1, ys', _, news₅, rfl, hlt, rfl, hl, hfp _ _ hk₄ k₅ oI₂ heI zI _ hst₄, k₅, F₅, hoC.ns zC, fun q hq => N₅ q (List.mem_cons_of_mem _ (List.mem_cons_of_mem _ hq)), p1, p2, p3, R₅⟩
        have app : ∀ (h₅ : Heap) (tk₅ : Nat) (y : Value) (E' : Value → Shared → Prop), CEnd h₀ L m { s₂ with heap := h₄, toks := tk₄ } I oI₂ H2.objs.size oC s₂.heap.objs.size (lst ys) kt (fun news' => CRest prog w A h₀ L m env target elt c scope cl s₂ kt (Fin s₂) (vs.drop (i + 1)) (ys ++ [y]) news') { s₂ with heap := h₅, toks := tk₅ } →
            wpAny (model prog w) A (call (.builtin "list.append") [.ref s₂.heap.objs.size, y]) (fun _ s₅ => ∃ q', q' < vs.length + 1 - i ∧ CInv h₀ L m s₂ vs I H2.objs.size s₂.heap.objs.size St kt (CRest prog w A h₀ L m env target elt c scope cl s₂ kt (Fin s₂)) q' s₅) E' { s₂ with heap := h₅, toks := tk₅ } := by
          intro hh5 tk5 y E' hx
          refine hideG fun GG eGG => ?_
          obtain ⟨h₅, tk₅, news₅, e5, F₅, N₅, p1, p2, p3, k₅, R₅⟩ := hx
          refine eGG ?_
          clear eGG
          obtain ⟨e5a, e5b⟩ : h₅ = hh5 ∧ tk₅ = tk5 := by cases e5; exact ⟨rfl, rfl⟩
          subst e5a e5b
          have zI := (N₅ (I, oI₂) List.mem_cons_self).1
          have zC := (N₅ (H2.objs.size, oC) (List.mem_cons_of_mem _ List.mem_cons_self)).1
          have zD := (N₅ (s₂.heap.objs.size, lst ys) (List.mem_cons_of_mem _ (List.mem_cons_of_mem _ List.mem_cons_self))).1
          have N₅' : News h₀ L h₅ news₅ := fun q hq => N₅ q (List.mem_cons_of_mem _ (List.mem_cons_of_mem _ (List.mem_cons_of_mem _ hq)))
          refine append_at (hsz := by show ys.toArray.size ≤ sizeLine; rw [List.size_toArray]; exact Nat.le_trans hyl (Nat.le_trans hi hsz)) zD fun h₆ hs₆ hD₆ => ?_
          refine fin (ys ++ [y]) h₆ _ news₅ (by rw [List.length_append, List.length_singleton]; exact Nat.succ_le_succ hyl) (F₅.change hs₆ hDL hD₀) (newsCons (hs₆.extBut I oI₂ hDI zI) (Ne.symm hIL) hI₀ (newsCons (hs₆.extBut _ oC (Ne.symm hDC) zC) hCL hC₀ (newsCons (hD₆.trans (congrArg some (lst_snoc ys y))) hDL hD₀ fun q hq => ⟨hs₆.extBut _ _ (p3 q hq) (N₅' q hq).1, (N₅' q hq).2⟩))) p1 p2 p3 (hkt _ _ (fun b o h1 _ e => hs₆.extBut b o (hDf b h1) e) k₅) R₅
        have R3 := R'' H2.objs.size oC m₄ h₄ tk₄ (notedBy (model prog w) A (compEnvC scope cl H2.objs.size env) fun e s' => RR (.ref s₂.heap.objs.size) H2.objs.size (.error e) s') hoC hbs₄ (nsObj_tup hoC) F₄ N₄ o1 o2 o3 ⟨hCI, hDI, Ne.symm hDC⟩
        cases c with
        | none =>
          refine wpAny_mono R3 (fun y s₆ h₆ => ?_) fun _ _ e => e
          have h₇ := h₆
          refine hideG fun G' g' => ?_
          obtain ⟨h₅, tk₅, news₅, e6, -⟩ := h₆
          refine g' ?_
          clear g'
          subst e6
          exact app h₅ tk₅ y _ h₇
        | some c =>
          refine wpAny_mono R3 (fun okb s₅ h₅ => ?_) fun _ _ e => e
          cases okb with
          | false =>
            simp only [Bool.false_eq_true, if_false] at h₅ ⊢
            refine hideG fun GG eGG => ?_
            obtain ⟨h₅, tk₅, news₅, e5, F₅, N₅, p1, p2, p3, k₅, R₅⟩ := h₅
            refine eGG ?_
            clear eGG
            subst e5
            exact fin ys h₅ tk₅ news₅ (Nat.le_succ_of_le hyl) F₅ N₅ p1 p2 p3 k₅ R₅
          | true =>
            simp only [if_true] at h₅ ⊢
            refine wpAny_mono h₅ (fun y s₆ h₆ => ?_) fun _ _ e => e
            have h₇ := h₆
            refine hideG fun G' g' => ?_
            obtain ⟨h₅, tk₅, news₅, e6, -⟩ := h₆
            refine g' ?_
            clear g'
            subst e6
            exact app h₅ tk₅ y _ h₇
      · have hin : i = vs.length := Nat.le_antisymm hi (Nat.not_lt.mp hlt)
        subst hin
        rw [List.drop_length] at R'
        refine S.done { s₂ with heap := h', toks := tk } _ _ hst' fun h₂ tk₂ kb₂ => ?_
        have up₂ : ∀ b o, b ≠ I → h'.get? b = some o → h₂.get? b = some o := fun b o hb e => kb₂ b o (fun q => hb (List.mem_singleton.mp q)) e
        refine hRR _ _ h₂ tk₂ _ ys news' ⟨F'.ns.at' fun o e => up₂ _ o hIL e, fun b o e => up₂ b o (fun q => by rw [q, hI₀] at e; cases e) (F'.keep b o e), F'.above⟩ (fun q hq => ⟨up₂ _ _ ?_ (N' q hq).1, (N' q hq).2⟩) o3 (hn'.at' fun o e => up₂ _ o (Ne.symm hCI) e) hC₀ hD₀ hCL hDL (Ne.symm hDC) o2 R'
        rcases List.mem_cons.mp hq with rfl | hq
        · exact Ne.symm hDI
        · exact o1 q hq
    · rcases List.mem_cons.mp hp with rfl | hp
      · exact ⟨hacc, hDL, hD₀⟩
      · exact ⟨old _ _ (N p hp).1, (N p hp).2⟩
  exact codeAny_compStart_list (loop _ rfl) (hself 0 _ _ _ hst₁ (loop _ rfl))

def FinG (h₀ : Heap) (L : Addr) (m : Str → Option Value) (s : Shared) (Q : Value → Shared → Prop) (ys : List Value) (news : List (Addr × Obj)) : Prop :=
  ∀ D h tk, Fr h₀ L h m → News h₀ L h ((D, lst ys) :: news) → (∀ p ∈ news, p.1 ≠ D) → Q (.ref D) { s with heap := h, toks := tk }

theorem comp_gen {elt target iter : Expr} {c : Option Expr} {scope : Scope} {cl : List (Str × Addr)} {pos : Pos} {Q : Value → Shared → Prop} (_F₀ : Fr h₀ L s.heap m)
    (hclos : closureFor scope env = pure cl) (hcell : ∀ y ∈ scope.names, y.2 ≠ .cell) (hkind : scope.kind = .function)
    (hnames : ∀ y ∈ scope.names, y.2 = .local → scope.names.lookup y.1 = some .local) (hok : tgtOk scope target = true)
    (h : wpAny (model prog w) A (eval iter env) (fun xv s₁ => wpAny (model prog w) A (pyIter xv) (fun it s₂ => CompG prog w A h₀ L m env target elt c scope cl (fun s₂ => FinG h₀ L m s₂ Q) it s₂) E s₁) E s)
    (hs : ∀ x, foldedSetIterable iter env x = pure x) :
    wpAny (model prog w) A (eval (.ListComp elt [⟨target, iter, c.toList, 0⟩] scope pos) env) Q E s := by
  rw [eval_ListComp]
  refine wpAny_comprehension_free (use := none) rfl hs hclos hkind hnames (wpAny_mono h (fun xv s₁ h₁ => wpAny_mono h₁ (fun it s₂ h₂ => ?_) fun _ _ e => e) fun _ _ e => e)
  refine comp_block h₂ hcell hkind hok ?_
  intro D C h tk m' ys news' F' N' o1 hn hC₀ hD₀ hCL hDL hCD offC fin
  refine ⟨m', hn, fun h'' hs'' => fin D h'' tk (F'.change hs'' hCL hC₀) (fun p hp => ?_) o1⟩
  refine ⟨hs''.extBut _ _ ?_ (N' p hp).1, (N' p hp).2⟩
  rcases List.mem_cons.mp hp with rfl | hp
  · exact Ne.symm hCD
  · exact offC p hp

theorem comp_iter_tup {target elt : Expr} {c : Option Expr} {scope : Scope} {cl : List (Str × Addr)} {Fin : Shared → List Value → List (Addr × Obj) → Prop} {t : Addr} {vs : List Value} (hh : A.handled = none) (F : Fr h₀ L s.heap m) (N : News h₀ L s.heap news) (hT : IsTup s.heap t vs.toArray) (hz : vs.length ≤ sizeLine)
    (rest : ∀ h, CRest prog w A h₀ L m env target elt c scope cl { s with heap := h } (fun h => IsTup h t vs.toArray) (Fin { s with heap := h }) vs [] news) :
    wpAny (model prog w) A (pyIter (.ref t)) (fun it s₂ => CompG prog w A h₀ L m env target elt c scope cl Fin it s₂) E s := by
  have hlt : t < s.heap.objs.size := by obtain ⟨o, ho, _⟩ := hT; exact Heap.lt_size ho
  have up : ∀ (h h' : Heap), (∀ o, h.get? t = some o → h'.get? t = some o) → IsTup h t vs.toArray → IsTup h' t vs.toArray := fun h h' k x => by obtain ⟨o, ho, r⟩ := x; exact ⟨o, k _ ho, r⟩
  refine wpAny_pyIter_tuple hT ?_
  have W := Walks.tuple (prog := prog) (w := w) hh s.heap.objs.size t (Nat.ne_of_lt hlt) vs.toArray
  have S := Src.ofWalks (target := target) W fun i s' v Q' E' st hq => letGo_tupleiter st.1 hq
  have e : vs.toArray.size = vs.length := List.size_toArray ..
  rw [e] at S
  have T1 := up _ _ (fun o e => Heap.get?_push_of_some { cls := .type "tuple_iterator", data := .fields #[.ref t, .int 0 0] } e) hT
  refine ⟨s.heap.objs.size, _, vs, fun h => IsTup h t vs.toArray, _, _, news, rfl, hh, S, W.self, hz, fun i v _ _ h => by simpa using h, fun h h' k1 k2 oI h1 h2 i st => ⟨?_, k2⟩,
    fun h h' kb k => up _ _ (fun o e => kb _ _ (by simp) (Nat.ne_of_lt hlt) e) k, fun i h st => ?_, ⟨⟨_, Heap.get?_push_size _ rfl, rfl, rfl⟩, T1⟩, T1, F.push _,
    fun p hp => ⟨Heap.get?_push_of_some _ (N p hp).1, (N p hp).2⟩, Nat.ne_of_lt F.ns.lt, PyProof.Rows.Fr.fresh F, fun p hp => Nat.ne_of_lt (Heap.lt_size (N p hp).1), fun b hb => ?_, by simp, rest _⟩
  · obtain ⟨o', ho', hr⟩ := st.1
    rw [h1] at ho'
    cases ho'
    exact ⟨_, h2, hr⟩
  · obtain ⟨o', ho', hc', hd'⟩ := st.1
    exact ⟨o', ho', by unfold tupObj; rw [hd']; simp⟩
  · show b < (s.heap.push _).objs.size
    rw [Heap.size_push]
    rcases List.mem_cons.mp hb with rfl | hb
    · exact Nat.lt_succ_self _
    · rw [List.mem_singleton.mp hb]; exact Nat.lt_succ_of_lt hlt
theorem comp_iter_lst {target elt : Expr} {c : Option Expr} {scope : Scope} {cl : List (Str × Addr)} {Fin : Shared → List Value → List (Addr × Obj) → Prop} {t : Addr} {vs : List Value} (hh : A.handled = none) (F : Fr h₀ L s.heap m) (N : News h₀ L s.heap news) (hT : s.heap.IsList t vs.toArray) (hz : vs.length ≤ sizeLine)
    (rest : ∀ h, CRest prog w A h₀ L m env target elt c scope cl { s with heap := h } (fun h => h.IsList t vs.toArray) (Fin { s with heap := h }) vs [] news) :
    wpAny (model prog w) A (pyIter (.ref t)) (fun it s₂ => CompG prog w A h₀ L m env target elt c scope cl Fin it s₂) E s := by
  have hlt : t < s.heap.objs.size := by obtain ⟨o, ho, _⟩ := hT; exact Heap.lt_size ho
  have up : ∀ (h h' : Heap), (∀ o, h.get? t = some o → h'.get? t = some o) → h.IsList t vs.toArray → h'.IsList t vs.toArray := fun h h' k x => by obtain ⟨o, ho, r⟩ := x; exact ⟨o, k _ ho, r⟩
  refine wpAny_pyIter_list hT ?_
  have W := Walks.list (prog := prog) (w := w) hh s.heap.objs.size t (Nat.ne_of_lt hlt) vs.toArray
  have S := Src.ofWalks (target := target) W fun i s' v Q' E' st hq => letGo_listiter st.1 hq
  have e : vs.toArray.size = vs.length := List.size_toArray ..
  rw [e] at S
  have T1 := up _ _ (fun o e => Heap.get?_push_of_some { cls := .type "list_iterator", data := .fields #[.ref t, .int 0 0] } e) hT
  refine ⟨s.heap.objs.size, _, vs, fun h => h.IsList t vs.toArray, _, _, news, rfl, hh, S, W.self, hz, fun i v _ _ h => by simpa using h, fun h h' k1 k2 oI h1 h2 i st => ⟨?_, k2⟩,
    fun h h' kb k => up _ _ (fun o e => kb _ _ (by simp) (Nat.ne_of_lt hlt) e) k, fun i h st => ?_, ⟨⟨_, Heap.get?_push_size _ rfl, rfl, rfl⟩, T1⟩, T1, F.push _,
    fun p hp => ⟨Heap.get?_push_of_some _ (N p hp).1, (N p hp).2⟩, Nat.ne_of_lt F.ns.lt, PyProof.Rows.Fr.fresh F, fun p hp => Nat.ne_of_lt (Heap.lt_size (N p hp).1), fun b hb => ?_, by simp, rest _⟩
  · obtain ⟨o', ho', hr⟩ := st.1
    rw [h1] at ho'
    cases ho'
    exact ⟨_, h2, hr⟩
  · obtain ⟨o', ho', hc', hd'⟩ := st.1
    exact ⟨o', ho', by unfold tupObj; rw [hd']; simp⟩
  · show b < (s.heap.push _).objs.size
    rw [Heap.size_push]
    rcases List.mem_cons.mp hb with rfl | hb
    · exact Nat.lt_succ_self _
    · rw [List.mem_singleton.mp hb]; exact Nat.lt_succ_of_lt hlt

theorem comp_gen0 {elt target iter : Expr} {scope : Scope} {cl : List (Str × Addr)} {pos : Pos} {Q : Value → Shared → Prop} (F₀ : Fr h₀ L s.heap m)
    (hclos : closureFor scope env = pure cl) (hcell : ∀ y ∈ scope.names, y.2 ≠ .cell) (hkind : scope.kind = .function)
    (hnames : ∀ y ∈ scope.names, y.2 = .local → scope.names.lookup y.1 = some .local) (hok : tgtOk scope target = true)
    (h : wpAny (model prog w) A (eval iter env) (fun xv s₁ => wpAny (model prog w) A (pyIter xv) (fun it s₂ => CompG prog w A h₀ L m env target elt none scope cl (fun s₂ => FinG h₀ L m s₂ Q) it s₂) E s₁) E s)
    (hs : ∀ x, foldedSetIterable iter env x = pure x) :
    wpAny (model prog w) A (eval (.ListComp elt [⟨target, iter, [], 0⟩] scope pos) env) Q E s := comp_gen (c := none) F₀ hclos hcell hkind hnames hok h hs
theorem comp_gen1 {elt target iter c : Expr} {scope : Scope} {cl : List (Str × Addr)} {pos : Pos} {Q : Value → Shared → Prop} (F₀ : Fr h₀ L s.heap m)
    (hclos : closureFor scope env = pure cl) (hcell : ∀ y ∈ scope.names, y.2 ≠ .cell) (hkind : scope.kind = .function)
    (hnames : ∀ y ∈ scope.names, y.2 = .local → scope.names.lookup y.1 = some .local) (hok : tgtOk scope target = true)
    (h : wpAny (model prog w) A (eval iter env) (fun xv s₁ => wpAny (model prog w) A (pyIter xv) (fun it s₂ => CompG prog w A h₀ L m env target elt (some c) scope cl (fun s₂ => FinG h₀ L m s₂ Q) it s₂) E s₁) E s)
    (hs : ∀ x, foldedSetIterable iter env x = pure x) :
    wpAny (model prog w) A (eval (.ListComp elt [⟨target, iter, [c], 0⟩] scope pos) env) Q E s := comp_gen (c := some c) F₀ hclos hcell hkind hnames hok h hs

theorem CRest.zero {target elt : Expr} {c : Option Expr} {scope : Scope} {cl : List (Str × Addr)} {kt : Heap → Prop} {Fin : List Value → List (Addr × Obj) → Prop} {ys : List Value} (h : Fin ys news) : CRest prog w A h₀ L m env target elt c scope cl s kt Fin [] ys news := h
theorem CRest.name {elt : Expr} {x : Str} {px : Pos} {c : Option Expr} {scope : Scope} {cl : List (Str × Addr)} {kt : Heap → Prop} {Fin : List Value → List (Addr × Obj) → Prop} {v : Value} {r ys : List Value}
    (h : ∀ (I : Addr) (oI : Obj) (D C : Addr) (oC : Obj) m₂ h tk (E' : Value → Shared → Prop), tupObj oI = false → NsObj oC m₂ → m₂ x = some v → tupObj oC = false → Fr h₀ L h m → News h₀ L h ((I, oI) :: (C, oC) :: (D, lst ys) :: news) → (∀ p ∈ news, p.1 ≠ I) → (∀ p ∈ news, p.1 ≠ C) → (∀ p ∈ news, p.1 ≠ D) → ((@Ne Nat I C) ∧ (@Ne Nat I D) ∧ (@Ne Nat C D)) →
        cTested prog w A c (compEnvC scope cl C env)
          (fun s₃ => wpAny (model prog w) A (eval elt (compEnvC scope cl C env)) (fun y => CEnd h₀ L m { s with heap := h, toks := tk } I oI C oC D (lst ys) kt (fun news' => CRest prog w A h₀ L m env (.Name x px) elt c scope cl s kt Fin r (ys ++ [y]) news')) E' s₃)
          (CEnd h₀ L m { s with heap := h, toks := tk } I oI C oC D (lst ys) kt (fun news' => CRest prog w A h₀ L m env (.Name x px) elt c scope cl s kt Fin r ys news')) E' { s with heap := h, toks := tk }) :
    CRest prog w A h₀ L m env (.Name x px) elt c scope cl s kt Fin (v :: r) ys news :=
  fun I oI D _ hI _ _ => ⟨_, .name .., fun C oC m₂ h' tk E' hC hb ht F' N' n1 n2 n3 ne => h I oI D C oC m₂ h' tk E' hI hC hb.1 ht F' N' n1 n2 n3 ne⟩
theorem CRest.pair {elt : Expr} {a b : Str} {pa pb tp : Pos} {kk : Nat} {c : Option Expr} {scope : Scope} {cl : List (Str × Addr)} {kt : Heap → Prop} {Fin : List Value → List (Addr × Obj) → Prop} {T : Addr} {x y : Value} {r ys : List Value}
    (hab : (a == b) = false)
    (hT : ∀ (I : Addr) (oI : Obj) (D : Addr) (h : Heap), Fr h₀ L h m → News h₀ L h ((I, oI) :: (D, lst ys) :: news) → IsTup h T #[x, y])
    (h : ∀ (I : Addr) (oI : Obj) (D C : Addr) (oC : Obj) m₂ h tk (E' : Value → Shared → Prop), tupObj oI = false → NsObj oC m₂ → m₂ a = some x → m₂ b = some y → tupObj oC = false → Fr h₀ L h m → News h₀ L h ((I, oI) :: (C, oC) :: (D, lst ys) :: news) → (∀ p ∈ news, p.1 ≠ I) → (∀ p ∈ news, p.1 ≠ C) → (∀ p ∈ news, p.1 ≠ D) → ((@Ne Nat I C) ∧ (@Ne Nat I D) ∧ (@Ne Nat C D)) →
        cTested prog w A c (compEnvC scope cl C env)
          (fun s₃ => wpAny (model prog w) A (eval elt (compEnvC scope cl C env)) (fun y' => CEnd h₀ L m { s with heap := h, toks := tk } I oI C oC D (lst ys) kt (fun news' => CRest prog w A h₀ L m env (.Tuple [.Name a pa, .Name b pb] kk tp) elt c scope cl s kt Fin r (ys ++ [y']) news')) E' s₃)
          (CEnd h₀ L m { s with heap := h, toks := tk } I oI C oC D (lst ys) kt (fun news' => CRest prog w A h₀ L m env (.Tuple [.Name a pa, .Name b pb] kk tp) elt c scope cl s kt Fin r ys news')) E' { s with heap := h, toks := tk }) :
    CRest prog w A h₀ L m env (.Tuple [.Name a pa, .Name b pb] kk tp) elt c scope cl s kt Fin (.ref T :: r) ys news :=
  fun I oI D g hI F N => ⟨_, .pair (hT I oI D g F N) hab, fun C oC m₂ h' tk E' hC hb ht F' N' n1 n2 n3 ne => h I oI D C oC m₂ h' tk E' hI hC hb.1 hb.2.1 ht F' N' n1 n2 n3 ne⟩
end
theorem w31 : True := by
  k_with "M eval ListComp" => (case' FRESH => ((k_here; (with_reducible show wpAny _ _ (eval (PySem.Expr.ListComp _ [PySem.Comprehension.mk _ _ [] _] _ _) _) _ _ _); k_dflt (refine' comp_gen0 ?F ?cl ?cell ?kind ?names ?ok ?_ ?hs; (case F => k_asm); (case cl => with_unfolding_all rfl); (case cell => decide); (case kind => rfl); (case names => decide); (case ok => decide +kernel); (case hs => intro _; with_unfolding_all rfl); k_whole))))
  trivial
theorem w32 : True := by
  k_with "M eval ListComp" => (case' FRESH => ((k_here; (with_reducible show wpAny _ _ (eval (PySem.Expr.ListComp _ [PySem.Comprehension.mk _ _ [_] _] _ _) _) _ _ _); k_dflt (refine' comp_gen1 ?F ?cl ?cell ?kind ?names ?ok ?_ ?hs; (case F => k_asm); (case cl => with_unfolding_all rfl); (case cell => decide); (case kind => rfl); (case names => decide); (case ok => decide +kernel); (case hs => intro _; with_unfolding_all rfl); k_whole))))
  trivial
theorem w33 : True := by
  k_with "M pyIter ref" => (case' FRESH => ((k_here; (with_reducible show wpAny _ _ (pyIter (Value.ref _)) (fun it s₂ => CompG _ _ _ _ _ _ _ _ _ _ _ _ _ it s₂) _ _); k_dflt (refine' comp_iter_tup ?h ?F ?N ?X ?z ?_; (case h => first | rfl | exact Rm.hhd (by assumption)); (case F => k_asm); (case N => k_asm); (case X => first | exact Fr.tup (by k_asm) (by assumption) | exact Fr.tupP (by assumption) (by k_asm) (by k_asm) (by k_all) | exact News.isTup (by k_asm) (by k_mem)); (case z => exact Nat.le_of_ble_eq_true rfl); k_whole); intro g')))
  trivial
theorem w34 : True := by
  k_with "M pyIter ref" => (case' FRESH => ((k_here; (with_reducible show wpAny _ _ (pyIter (Value.ref _)) (fun it s₂ => CompG _ _ _ _ _ _ _ _ _ _ _ _ _ it s₂) _ _); k_dflt (refine' comp_iter_lst ?h ?F ?N ?X ?z ?_; (case h => first | rfl | exact Rm.hhd (by assumption)); (case F => k_asm); (case N => k_asm); (case X => exact News.isList (by k_asm) (by k_mem)); (case z => first | exact Nat.le_of_ble_eq_true rfl | assumption); k_whole); intro g')))
  trivial
theorem w35 : True := by
  k_with "M CRest" => (case' FRESH => ((with_unfolding_all first
  | (refine CRest.name ?_; intro I' oI' D' C' oC' m' h' tk' E' hI' hC' hx' hC2' F' N' n1' n2' n3' ne'; ((refine (?_ : let q' : _ → Shared → Prop := _; let e' : Value → Shared → Prop := _; wpAny _ _ _ q' e' _)); intro q' e'))
  | (refine CRest.pair (by decide) (fun I0 oI0 D0 h0 F0 N0 => by first | exact Fr.tup (by k_asm) (by assumption) | exact Fr.tupP (by assumption) (by k_asm) (by k_asm) (by k_all) | exact News.isTup (by k_asm) (by k_mem)) ?_; intro I' oI' D' C' oC' m' h' tk' E' hI' hC' hx' hy' hC2' F' N' n1' n2' n3' ne'; ((refine (?_ : let q' : _ → Shared → Prop := _; let e' : Value → Shared → Prop := _; wpAny _ _ _ q' e' _)); intro q' e'))
  | refine CRest.zero ?_)))
  trivial
theorem w36 : True := by
  k_with "M CEnd" => (case' FRESH => ((refine' CEnd.intro (by assumption) (by assumption) ?d1 ?d2 ?d3 ?n1 ?n2 ?n3 ?k ?_; (case d1 => k_all); (case d2 => k_all); (case d3 => k_all); (case n1 => k_all); (case n2 => k_all); (case n3 => k_all); (case k => first | exact Fr.tup (by k_asm) (by assumption) | exact Fr.tupP (by assumption) (by k_asm) (by k_asm) (by k_all) | exact News.isTup (by k_asm) (by k_mem) | exact News.isList (by k_asm) (by k_mem)))))
  trivial
theorem w37 : True := by
  k_with "M FinG" => (case' FRESH => (((unfold FinG); intro D' h' tk' F' N' o1'; (try simp only [List.nil_append, List.cons_append] at N'); (try dsimp only))))
  trivial
end
/-! DictK -/
section
set_option maxRecDepth 100000
/-! the keys of a dict, each as it stands in its entry -/
section
variable {prog : Program} {w : World} {A : Around} {E : Value → Shared → Prop} {s : Shared}
theorem next_key {it d : Addr} {i n ep : Nat} {es : Array DictEntry} {od : Obj} {key : Value} {Q : Option Value → Shared → Prop} (hit : s.heap.IsKeyIter it d i n ep) (hod : s.heap.get? d = some od) (hdd : od.data = .dict es ep) (hn : es.size = n) (hi : (es[i]?).map (·.key) = some key)
    (hQ : ∀ h', h'.IsKeyIter it d (i + 1) n ep → Heap.SameBut it s.heap h' → Q (some key) { s with heap := h' }) : wpAny (model prog w) A (pyNext (.ref it)) Q E s := by
  obtain ⟨o, ho, hc, hd⟩ := id hit
  have hlt : i < es.size := by
    rcases Nat.lt_or_ge i es.size with h | h
    · exact h
    · rw [Array.getElem?_eq_none h] at hi; cases hi
  rw [Array.getElem?_eq_getElem hlt] at hi
  have hkey : es[i].key = key := Option.some.inj hi
  unfold pyNext
  refine wpAny_bind (wpAny_attempt (wpAny_callSpecial?_slot (name := Str.ofString "__next__") hit.typeIs PySem.F.slot_dict_keyiterator_next
    (wpAny_call_entry PySem.F.slot_dict_keyiterator_next hit.typeIs PySem.F.entry_dict_keyiterator_next ?_ (PySem.F.args_dict_keyiterator_next_1 _))))
  refine wpAny_bind (wpAny_pure ?_)
  refine wpAny_bind (wpAny_bind ?_)
  refine wpAny_bind (wpAny_typeNameOfWhole_keyiter hit.typeIs (wpAny_pure ?_))
  refine wpAny_bind (wpAny_fieldsOf ho hd ?_)
  simp only [show Builtin.Dict_items.ownsTuple "dict_keyiterator" = false by decide, Bool.false_eq_true, if_false]
  show wpAny _ _ (if (Value.ref d == Value.none) = true then _ else _) _ _ s
  rw [if_neg (show ¬ ((Value.ref d == Value.none) = true) from Bool.false_ne_true)]
  refine wpAny_bind (wpAny_pure (wpAny_bind (wpAny_dictEntries hod hdd ?_)))
  rw [if_neg (by rw [hn]; simp)]
  refine wpAny_bind (wpAny_pure (wpAny_bind (wpAny_dictEpoch hod hdd ?_)))
  rw [if_neg (by simp)]
  refine wpAny_pure ?_
  simp only [show ¬ ((i : Int) < 0) from by omega, if_false, Int.toNat_natCast, Array.getElem?_eq_getElem hlt]
  refine wpAny_bind ?_
  refine wpAny_bind (wpAny_typeNameOfWhole_keyiter hit.typeIs (wpAny_pure ?_))
  refine wpAny_bind (wpAny_isOneOf_keyiter hit.typeIs ?_)
  show wpAny _ _ (setField (.ref it) 1 (rawInt ((i : Int) + 1)) >>= _) _ _ s
  refine wpAny_bind (wpAny_setField ho hd (by simp) ?_)
  have hit' : (s.heap.update it (Obj.mapFields (·.setIfInBounds 1 (rawInt ((i : Int) + 1))))).IsKeyIter it d (i + 1) n ep :=
    ⟨_, Heap.get?_update_self _ ho (Obj.isFreed_of_fields (Obj.data_mapFields hd _)), (Obj.cls_mapFields ..).trans hc, by rw [Obj.data_mapFields hd]; simp [rawInt]⟩
  refine wpAny_bind (wpAny_holding ?_)
  refine wpAny_bind (wpAny_isOneOf_keyiter (s := { s with heap := s.heap.update it (Obj.mapFields (·.setIfInBounds 1 (rawInt ((i : Int) + 1)))) }) hit'.typeIs ?_)
  refine wpAny_pure (wpAny_pure ⟨_, rfl, wpAny_pure ?_⟩)
  show Q (some es[i].key) _
  rw [hkey]
  exact hQ _ hit' (Heap.SameBut.update ..)
theorem walksKeys {I d : Addr} {es : Array DictEntry} {od : Obj} {ep : Nat} {kvs : List (Str × Value)} (hh : A.handled = none) (hne : d ≠ I) (hx : od.ExactDict) (hdd : od.data = .dict es ep) (hk : PySem.KeysOf (strKind prog w) es) (hp : Pairs (strKind prog w) es.toList kvs) (hn : (kvs.map (·.1)).Nodup) :
    Walks prog w A I [I, d] [I] (es.toList.map (·.key)).length (fun i v => (es.toList.map (·.key))[i]? = some v) (fun i h => h.IsKeyIter I d i kvs.length ep ∧ h.get? d = some od) where
  sub := fun b hb => by simp at hb; simp [hb]
  frame := fun _ _ _ st k => ⟨st.1.at fun o e => k I (by simp) o e, k d (by simp) _ st.2⟩
  item := fun i s Q E hi st hQ => by
    have hl : es.size = kvs.length := by rw [← hp.length]; simp
    have hi' : i < es.size := by simpa using hi
    refine next_key (key := es[i].key) st.1 st.2 hdd hl (by rw [Array.getElem?_eq_getElem hi']; rfl) fun h' hit' hs' => ?_
    exact hQ _ h' s.toks (by rw [List.getElem?_map]; simp [hi']) ⟨hit', hs'.extBut _ _ hne st.2⟩ fun b o hb e => hs'.extBut b o (fun h => hb (by simp [h])) e
  done := fun s Q E st hQ => by
    have hl : (es.toList.map (·.key)).length = kvs.length := by rw [← hp.length]; simp
    rw [hl] at st
    exact wpAny_pyNext_dict_end hh st.1 ⟨_, es, st.2, hx, hdd, hk, hp, hn⟩ (by simp) fun h' he' => hQ h' s.toks fun b o hb e => he' b o (fun h => hb (by simp [h])) e
  self := fun _ _ _ _ st hQ => wpAny_pyIter_keyiter st.1 hQ
variable {h₀ : Heap} {L : Addr} {m : Str → Option Value} {env : Env} {news : List (Addr × Obj)}
theorem comp_iter_dict {target elt : PySem.Expr} {c : Option PySem.Expr} {scope : Scope} {cl : List (Str × Addr)} {Fin : Shared → List Value → List (Addr × Obj) → Prop} {d : Addr} {od : Obj} {a b : Str} {u v : Value} (hh : A.handled = none) (lo : (d == sysModules) = false) (F : Fr h₀ L s.heap m) (N : News h₀ L s.heap news) (hod : s.heap.get? d = some od) (hD : od.IsDictOf (strKind prog w) [(a, u), (b, v)])
    (rest : ∀ h k1 k2, CRest prog w A h₀ L m env target elt c scope cl { s with heap := h } (fun h => h.get? d = some od) (Fin { s with heap := h }) [.str a k1, .str b k2] [] news) :
    wpAny (model prog w) A (pyIter (.ref d)) (fun it s₂ => CompG prog w A h₀ L m env target elt c scope cl Fin it s₂) E s := by
  obtain ⟨es, ep, hx, hdd, hk, hp, hn⟩ := hD
  have hlt : d < s.heap.objs.size := Heap.lt_size hod
  refine wpAny_pyIter_dict (knd := strKind prog w) (kvs := [(a, u), (b, v)]) lo ⟨od, es, hod, hx, hdd, hk, hp, hn⟩ ?_
  have W := walksKeys (prog := prog) (w := w) (A := A) (I := s.heap.objs.size) hh (Nat.ne_of_lt hlt) hx hdd hk hp hn
  have S := Src.ofWalks (target := target) W fun i s' v Q' E' st hq => letGo_keyiter st.1 hq
  have keys : ∃ k1 k2, es.toList.map (·.key) = [.str a k1, .str b k2] := by
    generalize es.toList = l at hp
    cases hp with
    | cons h1 _ hp =>
      cases hp with
      | cons h2 _ hp =>
        cases hp
        obtain ⟨k1, e1⟩ := Value.isStrOf_shape h1
        obtain ⟨k2, e2⟩ := Value.isStrOf_shape h2
        exact ⟨k1, k2, by simp [e1, e2]⟩
  obtain ⟨k1, k2, ek⟩ := keys
  rw [ek] at S W
  refine ⟨s.heap.objs.size, _, [.str a k1, .str b k2], fun h => h.get? d = some od, _, _, news, rfl, hh, S, W.self, (show 2 ≤ sizeLine by decide), fun i v _ _ h => h, fun h h' k1 k2 oI h1 h2 i st => ⟨?_, k2⟩,
    fun h h' kb k => kb _ _ (by simp) (Nat.ne_of_lt hlt) k, fun i h st => ?_, ⟨⟨_, Heap.get?_push_size _ rfl, rfl, rfl⟩, Heap.get?_push_of_some _ hod⟩, Heap.get?_push_of_some _ hod, F.push _,
    fun p hp => ⟨Heap.get?_push_of_some _ (N p hp).1, (N p hp).2⟩, Nat.ne_of_lt F.ns.lt, PyProof.Rows.Fr.fresh F, fun p hp => Nat.ne_of_lt (Heap.lt_size (N p hp).1), fun b hb => ?_, by simp, rest _ _ _⟩
  · obtain ⟨o', ho', hr⟩ := st.1
    rw [h1] at ho'
    cases ho'
    exact ⟨_, h2, hr⟩
  · obtain ⟨o', ho', hc', hd'⟩ := st.1
    exact ⟨o', ho', by unfold tupObj; rw [hd']; simp⟩
  · show b < (s.heap.push _).objs.size
    rw [Heap.size_push]
    rcases List.mem_cons.mp hb with rfl | hb
    · exact Nat.lt_succ_self _
    · rw [List.mem_singleton.mp hb]; exact Nat.lt_succ_of_lt hlt
end
end
/-! Enum -/
section
open AutoSeq1 (wpAny_loadPart')
/-! enumerate over a tuple -/
section
variable {prog : Program} {w : World} {A : Around} {E : Value → Shared → Prop} {s : Shared}
theorem nextOf_tuple_item {it l : Addr} {i : Nat} {items} {x : Value} {Q : Value → Shared → Prop} (hit : s.heap.IsTupleIter it l i)
    (hl : s.heap.IsTuple l items) (hx : items[i]? = some x)
    (hQ : ∀ h', h'.IsTupleIter it l (i + 1) → Heap.SameBut it s.heap h' → Q x { s with heap := h' }) :
    wpAny (model prog w) A (Builtin.SmallTypes.nextOf (.ref it)) Q E s := by
  obtain ⟨o, ho, hc, hd⟩ := id hit
  obtain ⟨ol, hol, _, nl, hdl⟩ := hl
  unfold Builtin.SmallTypes.nextOf
  refine wpAny_bind (wpAny_callSpecial?_slot (name := Str.ofString "__next__") hit.typeIs F.slot_tuple_iterator_next
    (wpAny_call_entry F.slot_tuple_iterator_next hit.typeIs F.entry_tuple_iterator_next ?_ (F.args_tuple_iterator_next_1 _)))
  show wpAny _ _ (field (.ref it) 0 >>= _) _ _ s
  refine wpAny_bind (wpAny_field ho hd (x := .ref l) rfl ?_)
  show wpAny _ _ (if (Value.ref l == Value.none) = true then _ else _) _ _ s
  rw [if_neg (show ¬ ((Value.ref l == Value.none) = true) from Bool.false_ne_true)]
  show wpAny _ _ (field (.ref it) 1 >>= _) _ _ s
  refine wpAny_bind (wpAny_field ho hd (x := .int i 0) rfl ?_)
  show wpAny _ _ (seqItems? (.ref l) >>= _) _ _ s
  refine wpAny_bind (wpAny_seqItems hol hdl ?_)
  simp only [Int.toNat_natCast, hx]
  refine wpAny_bind (wpAny_setField ho hd (by simp) (wpAny_pure ⟨x, rfl, wpAny_pure (hQ _ ?_ (Heap.SameBut.update ..))⟩))
  exact ⟨_, Heap.get?_update_self _ ho (Obj.isFreed_of_fields (Obj.data_mapFields hd _)), (Obj.cls_mapFields ..).trans hc, by
    rw [Obj.data_mapFields hd]; simp [rawInt]⟩
theorem nextOf_tuple_end {it l : Addr} {i : Nat} {items} {Q : Value → Shared → Prop} (hh : A.handled = none)
    (hit : s.heap.IsTupleIter it l i) (hl : s.heap.IsTuple l items) (hx : items[i]? = none)
    (hE : ∀ h' e, Heap.ExtBut it s.heap h' → (∃ o, h'.get? e = some o ∧ o.cls = .type "StopIteration") → E (.ref e) { s with heap := h' }) :
    wpAny (model prog w) A (Builtin.SmallTypes.nextOf (.ref it)) Q E s := by
  obtain ⟨o, ho, hc, hd⟩ := id hit
  obtain ⟨ol, hol, _, nl, hdl⟩ := hl
  unfold Builtin.SmallTypes.nextOf
  refine wpAny_bind (wpAny_callSpecial?_slot (name := Str.ofString "__next__") hit.typeIs F.slot_tuple_iterator_next
    (wpAny_call_entry F.slot_tuple_iterator_next hit.typeIs F.entry_tuple_iterator_next ?_ (F.args_tuple_iterator_next_1 _)))
  show wpAny _ _ (field (.ref it) 0 >>= _) _ _ s
  refine wpAny_bind (wpAny_field ho hd (x := .ref l) rfl ?_)
  show wpAny _ _ (if (Value.ref l == Value.none) = true then _ else _) _ _ s
  rw [if_neg (show ¬ ((Value.ref l == Value.none) = true) from Bool.false_ne_true)]
  show wpAny _ _ (field (.ref it) 1 >>= _) _ _ s
  refine wpAny_bind (wpAny_field ho hd (x := .int i 0) rfl ?_)
  show wpAny _ _ (seqItems? (.ref l) >>= _) _ _ s
  refine wpAny_bind (wpAny_seqItems hol hdl ?_)
  simp only [Int.toNat_natCast, hx]
  refine wpAny_bind (wpAny_rule (wpAny_bind (wpAny_setField ho hd (by simp) ?_)))
  show wpAny _ _ (newExc (.type "StopIteration") [] >>= _) _ _ _
  refine wpAny_bind ?_
  simp only [newExc, newTuple]
  refine wpAny_bind (wpAny_newObj_type ?_ (by size_fits))
  refine wpAny_bind (m := firstArgMember _ _) (wpAny_of_eq (a := Value.none) (by first | rfl | (simp only [firstArgMember]; rfl)) ?_)
  refine wpAny_newObj_type ?_ (by size_fits)
  simp only [raiseNew]
  refine wpAny_bind (wpAny_handled ?_)
  first | rw [show A.in1.handled = none from hh] | rw [hh]
  refine wpAny_bind (wpAny_pure (wpAny_throw ?_))
  exact hE _ _ (((Heap.SameBut.update ..).extBut.push _).push _) ⟨_, Heap.get?_push_size _ rfl, rfl⟩
theorem drawsTuple (hh : A.handled = none) (it l : Addr) (hne : l ≠ it) (items : Array Value) :
    Draws prog w A it [it, l] items.size (fun i v => items[i]? = some v) (fun i h => h.IsTupleIter it l i ∧ h.IsTuple l items) where
  live := fun _ _ st => let ⟨o, ho, _⟩ := st.1; ⟨o, ho⟩
  frame := fun _ _ _ st hk => ⟨by obtain ⟨o, ho, r⟩ := st.1; exact ⟨o, hk it (by simp) o ho, r⟩, by obtain ⟨o, ho, r⟩ := st.2; exact ⟨o, hk l (by simp) o ho, r⟩⟩
  item := fun i s Q E hi st hQ => by
    refine nextOf_tuple_item st.1 st.2 (x := items[i]) (by simp [hi]) fun h' hit' hs' => ?_
    exact hQ _ h' s.toks (by simp [hi]) ⟨hit', st.2.extBut hs'.extBut hne⟩ hs'
  done := fun s Q E st hE => nextOf_tuple_end hh st.1 st.2 (by simp) hE
theorem meets_enumerate_newT (l : Addr) (items : Array Value) (n : Nat) (dct : Option Addr) (sl : Array (Option Value)) :
    Meets (Builtin.«enumerate.__new__» ⟨[.type "enumerate", .ref l], []⟩) (fun _ R s => s.heap.get? l = some { cls := .type "tuple", dict := dct, data := .seq items n, slots := sl } ∧
      R (.ok (.ret (.ref (s.heap.push { cls := .type "tuple_iterator", data := .fields #[.ref l, .int 0 0] }).objs.size)))
        { s with heap := (s.heap.push { cls := .type "tuple_iterator", data := .fields #[.ref l, .int 0 0] }).push { cls := .type "enumerate", data := .fields #[.none, .bool false, .ref s.heap.objs.size, rawInt 0, .none, .none] } }) :=
  .of_wp fun prog w A R s h => by
    obtain ⟨hp, g, d, tk, os⟩ := s; obtain ⟨hl, h⟩ := h
    have hsub := sub_enumerate
    have hL : Heap.IsTuple (Shared.heap ⟨hp, g, d, tk, os⟩) l items := ⟨_, hl, rfl, n, rfl⟩
    wp_walk using wpAny_loadPart' hl
    refine wpAny_stack_any fun st => wpAny_pure ?_
    split
    · rename_i c _ _ _ _ _
      cases (c == Value.type "enumerate")
      · wp_walk using wpAny_loadPart' hl, wpAny_pyIter_tuple hL
        exact ⟨_, rfl, h⟩
      · wp_walk using wpAny_loadPart' hl, wpAny_pyIter_tuple hL
        exact ⟨_, rfl, h⟩
    · wp_walk using wpAny_loadPart' hl, wpAny_pyIter_tuple hL
      exact ⟨_, rfl, h⟩
theorem call_enumerate_tup {l : Addr} {items : Array Value} {Q : Value → Shared → Prop} (hL : s.heap.IsTuple l items)
    (h : ∀ h', IsEnum h' (s.heap.objs.size + 1) s.heap.objs.size 0 .none → h'.IsTupleIter s.heap.objs.size l 0 → h'.objs.size = s.heap.objs.size + 2 →
      (∀ b o, s.heap.get? b = some o → h'.get? b = some o) → Q (.ref (s.heap.objs.size + 1)) { s with heap := h' }) :
    wpAny (model prog w) A (call (.type "enumerate") [.ref l]) Q E s := by
  obtain ⟨⟨c, dct, dt, sl⟩, hl, hc, n, hd⟩ := hL
  replace hc : c = .type "tuple" := hc
  replace hd : dt = .seq items n := hd
  subst hc hd
  refine callType_new F.called_enumerate (by decide) (F.typeCall_enumerate_1 _) (F.newCall_enumerate_1 _) (fun obj => F.args_object_init_2 obj _) F.entry_enumerate_new
    (meets_enumerate_newT l items n dct sl) ⟨hl, ?_⟩
  have hz : (s.heap.push { cls := .type "tuple_iterator", data := .fields #[.ref l, .int 0 0] }).objs.size = s.heap.objs.size + 1 := Heap.size_push ..
  show _ ∧ _
  rw [hz]
  have he : IsEnum ((s.heap.push { cls := .type "tuple_iterator", data := .fields #[.ref l, .int 0 0] }).push
      { cls := .type "enumerate", data := .fields #[.none, .bool false, .ref s.heap.objs.size, rawInt 0, .none, .none] }) (s.heap.objs.size + 1) s.heap.objs.size 0 .none := by
    have := Heap.get?_push_size (s.heap.push { cls := .type "tuple_iterator", data := .fields #[.ref l, .int 0 0] })
      (o := { cls := .type "enumerate", data := .fields #[.none, .bool false, .ref s.heap.objs.size, rawInt 0, .none, .none] }) rfl
    rw [hz] at this; exact this
  refine ⟨⟨_, he, rfl⟩, h _ he ⟨_, Heap.get?_push_of_some _ (Heap.get?_push_size _ rfl), rfl, rfl⟩ (by rw [Heap.size_push, hz]) fun b o x => Heap.get?_push_of_some _ (Heap.get?_push_of_some _ x)⟩
end

theorem neS {a n : Nat} (h : a < n) : a ≠ n + 1 := by omega
theorem neS' {a n : Nat} (h : a < n) : n + 1 ≠ a := by omega
theorem neZ' {a n : Nat} (h : a < n) : n ≠ a := by omega
theorem ltS {a n : Nat} (h : a < n) : a < n + 1 := by omega
/-! a for over pairs that an iterator of two objects hands out -/
inductive UEndE (h₀ : Heap) (L : Addr) (s : Shared) (I : Addr) (oI : Obj) (J : Addr) (oJ : Obj) (kt : Heap → Prop) (K : (Str → Option Value) → List (Addr × Obj) → Prop) (s₄ : Shared) : Prop
  | mk (h' : Heap) (tk : Nat) (m' : Str → Option Value) (news' : List (Addr × Obj)) (e : s₄ = { s with heap := h', toks := tk }) (F : Fr h₀ L h' m') (N : News h₀ L h' news') (hI : h'.get? I = some oI) (hJ : h'.get? J = some oJ) (hn : ∀ p ∈ news', p.1 ≠ I) (hn' : ∀ p ∈ news', p.1 ≠ J) (k : kt h') (r : K m' news') : UEndE h₀ L s I oI J oJ kt K s₄
theorem UEndE.intro {h₀ h' : Heap} {L I J : Addr} {s : Shared} {oI oJ : Obj} {kt : Heap → Prop} {K : (Str → Option Value) → List (Addr × Obj) → Prop} {m' : Str → Option Value} {l l1 news' : List (Addr × Obj)} {tk : Nat}
    (F : Fr h₀ L h' m') (N : News h₀ L h' l) (D : Drop (I, oI) l l1) (D' : Drop (J, oJ) l1 news') (hn : ∀ p ∈ news', p.1 ≠ I) (hn' : ∀ p ∈ news', p.1 ≠ J) (ht : kt h') (k : K m' news') : UEndE h₀ L s I oI J oJ kt K { s with heap := h', toks := tk } :=
  ⟨h', tk, m', news', rfl, F, fun p hp => N p (D.mem.2 p (D'.mem.2 p hp)), (N _ D.mem.1).1, (N _ (D.mem.2 _ D'.mem.1)).1, hn, hn', ht, k⟩
def RestE (prog : Program) (w : World) (A : Around) (h₀ : Heap) (env : Env) (target : Expr) (body : List Stmt) (Q : Flow → Shared → Prop) (E : Value → Shared → Prop) (s : Shared) (I J : Addr) (kt : Heap → Prop) : Int → List Value → (Str → Option Value) → List (Addr × Obj) → Prop
  | _, [], m, news => ∀ h tk, Fr h₀ env.locals h m → News h₀ env.locals h news → Q .next { s with heap := h, toks := tk }
  | i, v :: r, m, news => ∀ T t oI oJ h tk, tupObj oI = false → tupObj oJ = false → IsTup h T #[.int i t, v] → Fr h₀ env.locals h m → News h₀ env.locals h ((I, oI) :: (J, oJ) :: news) →
      wpAny (model prog w) A (assign target env (.ref T)) (fun _ s₃ => wpAny (model prog w) A (execs body env) (TurnG (UEndE h₀ env.locals s I oI J oJ kt (RestE prog w A h₀ env target body Q E s I J kt (i + 1) r)) Q) E s₃) E { s with heap := h, toks := tk }
section
variable {prog : Program} {w : World} {A : Around} {E : Value → Shared → Prop} {s : Shared} {env : Env} {h₀ : Heap} {target : Expr} {body : List Stmt} {Q : Flow → Shared → Prop} {m : Str → Option Value} {news : List (Addr × Obj)} {I J t : Addr} {kt : Heap → Prop}
theorem RestE.zero {i : Int} (h : ∀ h tk, Fr h₀ env.locals h m → News h₀ env.locals h news → Q .next { s with heap := h, toks := tk }) : RestE prog w A h₀ env target body Q E s I J kt i [] m news := h
theorem RestE.succ {i : Int} {v : Value} {r : List Value} (h : ∀ T t oI oJ h tk, tupObj oI = false → tupObj oJ = false → IsTup h T #[.int i t, v] → Fr h₀ env.locals h m → News h₀ env.locals h ((I, oI) :: (J, oJ) :: news) →
      wpAny (model prog w) A (assign target env (.ref T)) (fun _ s₃ => wpAny (model prog w) A (execs body env) (TurnG (UEndE h₀ env.locals s I oI J oJ kt (RestE prog w A h₀ env target body Q E s I J kt (i + 1) r)) Q) E s₃) E { s with heap := h, toks := tk }) :
    RestE prog w A h₀ env target body Q E s I J kt i (v :: r) m news := h
theorem iter_restE {vs : List Value} {St : Nat → Heap → Prop} {P : Nat → Value → Heap → Heap → Prop} {fp : List Addr} {s₂ : Shared}
    (S : Src prog w A target I fp [I, J] vs.length P St) (hP : ∀ i v h h', P i v h h' → ∃ T t x, v = .ref T ∧ vs[i]? = some x ∧ IsTup h' T #[.int i t, x])
    (hfp : ∀ h h', kt h → kt h' → ∀ oI oJ, h.get? I = some oI → h'.get? I = some oI → h.get? J = some oJ → h'.get? J = some oJ → ∀ i, St i h → St i h') (hkt : ∀ h h', But [I, J] h h' → kt h → kt h')
    (hI : ∀ i h, St i h → (∃ oI, h.get? I = some oI ∧ tupObj oI = false) ∧ ∃ oJ, h.get? J = some oJ ∧ tupObj oJ = false)
    (hs : ∃ h tk, s₂ = { s with heap := h, toks := tk }) (h0 : St 0 s₂.heap) (k0 : kt s₂.heap)
    (F : Fr h₀ env.locals s₂.heap m) (N : News h₀ env.locals s₂.heap news) (hL : I ≠ env.locals) (hL' : J ≠ env.locals) (hIn : h₀.get? I = none) (hJn : h₀.get? J = none) (hn : ∀ p ∈ news, p.1 ≠ I) (hn' : ∀ p ∈ news, p.1 ≠ J)
    (rest : RestE prog w A h₀ env target body Q E s I J kt 0 vs m news) : LoopG prog w A env target body Q E (.ref I) s₂ := by
  refine ⟨I, fp, [I, J], vs.length, P, St, fun i => RInv h₀ env.locals (fun s' => ∃ h tk, s' = { s with heap := h, toks := tk }) (fun news => (∀ p ∈ news, p.1 ≠ I) ∧ ∀ p ∈ news, p.1 ≠ J) kt (RestE prog w A h₀ env target body Q E s I J kt i (vs.drop i)),
    rfl, S, h0, ⟨hs, k0, m, news, F, N, ⟨hn, hn'⟩, by rw [List.drop_zero]; exact rest⟩, ?_, ?_⟩
  · intro i s₁ v h' tk' hi hx hp st kb
    refine hideG fun G' g' => ?_
    rcases hx with ⟨⟨h, tk, e1⟩, kh, m, news, F, N, ⟨hn, hn'⟩, rest⟩
    refine g' ?_
    clear g'
    subst e1
    obtain ⟨T, t, x, rfl, hv, hT⟩ := hP i v _ _ hp
    have hdrop : vs.drop i = x :: vs.drop (i + 1) := by
      rw [List.drop_eq_getElem_cons hi]
      congr 1
      exact Option.some.inj ((List.getElem?_eq_getElem hi).symm.trans hv)
    rw [hdrop] at rest
    obtain ⟨⟨oI, hoI, htI⟩, oJ, hoJ, htJ⟩ := hI _ _ st
    have kh' := hkt _ _ kb kh
    have kb' : ∀ b o, b ≠ I → b ≠ J → h.get? b = some o → h'.get? b = some o := fun b o h1 h2 e => kb b o (fun q => by simp at q; rcases q with q | q; exact h1 q; exact h2 q) e
    have F' : Fr h₀ env.locals h' m := by
      obtain ⟨oL, es, ep, hoL, hr⟩ := F.ns
      exact ⟨⟨oL, es, ep, kb' _ _ (Ne.symm hL) (Ne.symm hL') hoL, hr⟩, fun b o e => kb' b o (fun q => by rw [q, hIn] at e; cases e) (fun q => by rw [q, hJn] at e; cases e) (F.keep b o e), F.above⟩
    have N' : News h₀ env.locals h' ((I, oI) :: (J, oJ) :: news) := fun p hp => by
      rcases List.mem_cons.mp hp with rfl | hp
      · exact ⟨hoI, hL, hIn⟩
      rcases List.mem_cons.mp hp with rfl | hp
      · exact ⟨hoJ, hL', hJn⟩
      · exact ⟨kb' _ _ (hn p hp) (hn' p hp) (N p hp).1, (N p hp).2⟩
    refine wpAny_mono (rest T t oI oJ h' tk' htI htJ hT F' N') (fun _ s₃ h₃ => wpAny_mono h₃ (fun f s₄ h₄ => ?_) fun _ _ e => e) fun _ _ e => e
    have fin : UEndE h₀ env.locals s I oI J oJ kt (RestE prog w A h₀ env target body Q E s I J kt (i + 1) (vs.drop (i + 1))) s₄ → St (i + 1) s₄.heap ∧ RInv h₀ env.locals (fun s' => ∃ h tk, s' = { s with heap := h, toks := tk }) (fun news => (∀ p ∈ news, p.1 ≠ I) ∧ ∀ p ∈ news, p.1 ≠ J) kt (RestE prog w A h₀ env target body Q E s I J kt ((i + 1 : Nat) : Int) (vs.drop (i + 1))) s₄ := by
      intro hx
      refine hideG fun G' g' => ?_
      rcases hx with ⟨h'', tk'', m', news', e1, F'', N'', hI', hJ', hq, hq', k', r⟩
      refine g' ?_
      clear g'
      subst e1
      exact ⟨hfp _ _ kh' k' oI oJ hoI hI' hoJ hJ' _ st, ⟨_, _, rfl⟩, k', m', news', F'', N'', ⟨hq, hq'⟩, r⟩
    cases f with
    | ret v => exact h₄
    | brk => exact h₄
    | next => exact fin h₄
    | cont => exact fin h₄
  · intro s₁ h' tk' hx kb
    refine hideG fun G' g' => ?_
    rcases hx with ⟨⟨h, tk, e1⟩, kh, m, news, F, N, ⟨hn, hn'⟩, rest⟩
    refine g' ?_
    clear g'
    subst e1
    rw [List.drop_length] at rest
    have kb' : ∀ b o, b ≠ I → b ≠ J → h.get? b = some o → h'.get? b = some o := fun b o h1 h2 e => kb b o (fun q => by simp at q; rcases q with q | q; exact h1 q; exact h2 q) e
    obtain ⟨oL, es, ep, hoL, hr⟩ := F.ns
    exact rest h' tk' ⟨⟨oL, es, ep, kb' _ _ (Ne.symm hL) (Ne.symm hL') hoL, hr⟩, fun b o e => kb' b o (fun q => by rw [q, hIn] at e; cases e) (fun q => by rw [q, hJn] at e; cases e) (F.keep b o e), F.above⟩
      fun p hp => ⟨kb' _ _ (hn p hp) (hn' p hp) (N p hp).1, (N p hp).2⟩

theorem enum_tup {elts : List Expr} {k : Nat} {pos : Pos} {vs : List Value} (hh : A.handled = none) (F : Fr h₀ env.locals s.heap m) (N : News h₀ env.locals s.heap news) (hT : IsTup s.heap t vs.toArray)
    (rest : ∀ I J : Addr, (∀ p ∈ news, p.1 < I) → (∀ p ∈ news, p.1 < J) → @LT.lt Nat _ J I → RestE prog w A h₀ env (.Tuple elts k pos) body Q E s I J (fun h => IsTup h t vs.toArray) 0 vs m news) :
    wpAny (model prog w) A (call (.type "enumerate") [.ref t]) (fun xv s₁ => wpAny (model prog w) A (pyIter xv) (fun it s₂ => LoopG prog w A env (.Tuple elts k pos) body Q E it s₂) E s₁) E s := by
  have hlt : t < s.heap.objs.size := by obtain ⟨o, ho, _⟩ := hT; exact Heap.lt_size ho
  have up : ∀ (h h' : Heap), (∀ o, h.get? t = some o → h'.get? t = some o) → IsTup h t vs.toArray → IsTup h' t vs.toArray := fun h h' k x => by obtain ⟨o, ho, r⟩ := x; exact ⟨o, k _ ho, r⟩
  refine call_enumerate_tup hT fun h' hE hI hsz hk => ?_
  refine wpAny_pyIter_enum hE ?_
  have D := drawsTuple (prog := prog) (w := w) (A := A.in1) (by first | exact hh | (show A.in1.handled = none; exact hh)) s.heap.objs.size t (Nat.ne_of_lt hlt) vs.toArray
  have W := WalksT.enumerateD D (s.heap.objs.size + 1) (Nat.succ_ne_self _) (fun hb => by
    rcases List.mem_cons.mp hb with q | hb
    · exact Nat.succ_ne_self _ q
    · exact neS' hlt (List.mem_singleton.mp hb)) (by simp)
  have S := Src.ofWalksT (elts := elts) (k := k) (pos := pos) W
  have e : vs.toArray.size = vs.length := List.size_toArray ..
  rw [e] at S
  have hLs : env.locals < s.heap.objs.size := F.ns.lt
  have f1 : h₀.get? s.heap.objs.size = none := PyProof.Rows.Fr.fresh F
  have f2 : h₀.get? (s.heap.objs.size + 1) = none := by
    cases q : h₀.get? (s.heap.objs.size + 1) with
    | none => rfl
    | some o => exact absurd (Heap.lt_size (F.keep _ _ q)) (Nat.not_lt.mpr (Nat.le_succ _))
  have lt : ∀ p ∈ news, p.1 < s.heap.objs.size := fun p hp => Heap.lt_size (N p hp).1
  have T1 := up _ _ (fun o e => hk _ o e) hT
  refine iter_restE S (fun i v h h'' hp => ?_) (fun g g' k1 k2 oI oJ e1 e2 e3 e4 i st => ?_) (fun g g' kb k => up _ _ (fun o e => kb _ _ (fun hb => by
    rcases List.mem_cons.mp hb with q | hb
    · exact neS hlt q
    · exact Nat.ne_of_lt hlt (List.mem_singleton.mp hb)) e) k) (fun i g st => ?_) ⟨_, _, rfl⟩ ⟨⟨.none, hE⟩, hI, T1⟩ T1 (F.keeps hk) (N.grown hk)
    (neS' hLs) (neZ' hLs) f2 f1 (fun p hp => neS (lt p hp)) (fun p hp => Nat.ne_of_lt (lt p hp)) (rest _ _ (fun p hp => ltS (lt p hp)) (fun p hp => lt p hp) (Nat.lt_succ_self _))
  · obtain ⟨T, vals, rfl, ⟨t', x, hx, rfl⟩, _, hT⟩ := hp
    exact ⟨T, t', x, rfl, by simpa using hx, hT⟩
  · obtain ⟨⟨old, he⟩, ⟨oj, hj, hr⟩, _⟩ := st
    have he' : g.get? (s.heap.objs.size + 1) = some _ := he
    rw [e1] at he'
    cases he'
    rw [e3] at hj
    cases hj
    exact ⟨⟨old, e2⟩, ⟨_, e4, hr⟩, k2⟩
  · obtain ⟨⟨old, he⟩, ⟨oj, hj, hjc, hjd⟩, _⟩ := st
    exact ⟨⟨_, he, by unfold tupObj; simp⟩, oj, hj, by unfold tupObj; rw [hjd]; simp⟩
end
theorem w38 : True := by
  k_with "M exec For Tuple Call cons nil" => (case' FRESH => ((k_here; k_dflt (refine' for_gen ?_ ?hs ?hE; (case hs => intro _; with_unfolding_all rfl); (case hE => passes_own); k_whole))))
  trivial
theorem w39 : True := by
  k_with "M call type:enumerate" => (case' FRESH => ((k_here; (with_reducible show wpAny _ _ (call (Value.type _) [Value.ref _]) (fun xv s₁ => wpAny _ _ (pyIter xv) (fun it s₂ => LoopG _ _ _ _ _ _ _ _ it s₂) _ s₁) _ _); k_dflt (refine' enum_tup ?h ?F ?N ?X ?_; (case h => first | rfl | exact Rm.hhd (by assumption)); (case F => k_asm); (case N => k_asm); (case X => first | exact Fr.tup (by k_asm) (by assumption) | exact Fr.tupP (by assumption) (by k_asm) (by k_asm) (by k_all) | exact News.isTup (by k_asm) (by k_mem)); k_whole); intro i' j' l1 l2 l3; (try k_lt l1); (try k_lt l2))))
  trivial
theorem w40 : True := by
  k_with "M RestE" => (case' FRESH => (first | (with_unfolding_all refine RestE.succ (fun T' t' oI' oJ' h' tk' hoI' hoJ' hT' F' N' => ?_)) | (with_unfolding_all refine RestE.zero (fun h' tk' F' N' => ?_))))
  trivial
theorem w41 : True := by
  k_with "M UEndE" => (case' FRESH => ((refine' UEndE.intro (by assumption) (by assumption) ?hD ?hD2 ?hn ?hn2 ?ht ?_; (case hD => k_all); (case hD2 => k_all); (case hn => k_all); (case hn2 => k_all); (case ht => first | exact Fr.tup (by k_asm) (by assumption) | exact Fr.tupP (by assumption) (by k_asm) (by k_asm) (by k_all) | exact News.isTup (by k_asm) (by k_mem) | exact News.isList (by k_asm) (by k_mem)))))
  trivial
end
/-! CellIn -/
section
section
variable {prog : Program} {w : World} {A : Around} {s : Shared} {K : Frag} {p : Program} {loose : List Str} {mean : ExcName → Option Value} {mg mb : Str → Option Value}
    {R : Result → Shared → Prop} {name qual : Str} {params : Arguments} {body : List Stmt} {scope : Scope} {dV kV doc pm cdv ct oc : Value} {an od : Option Addr} {osl : Array (Option Value)} {f : Addr} {args : Args} {binds : List (Str × Value)}
/-- a def with cells that stores into nothing that stands -/
theorem enterC
    (X : K.In s.heap) (T : Top p loose mean mg mb s.heap)
    (ho : K.lookup f = some ⟨oc, od, .func (fnOf name qual params body scope dV kV doc pm an cdv ct), osl⟩) (hcd : codeIn K cdv qual = true) (hroom : A.depth < recursionLimit)
    (hbind : BindsTo s (fnOf name qual params body scope dV kV doc pm an cdv ct) args binds) (hkind : (binds.all fun y => scope.names.lookup y.1 == some .local || scope.names.lookup y.1 == some .cell) = true)
    (hnd : ((cellsFrom 0 scope.names []).map (·.1)).Nodup)
    (h : ∀ L h₁ tk cells, Fr s.heap L h₁ (bindL (envOfC qual scope L f cdv).kindOf binds fun _ => none) → News s.heap L h₁ cells →
      CellsAre (bindC (envOfC qual scope L f cdv).kindOf binds fun _ => none) (cellsFrom (L + 1) scope.names []) cells →
      wpAny (model prog w) (A.deeper (envOfC qual scope L f cdv)) (execs body (envOfC qual scope L f cdv))
        (fun fl s' => R (.ok (.ret (match fl with | .ret v => v | _ => .none))) s')
        (fun e s' => wpAny (model prog w) (A.deeper (envOfC qual scope L f cdv)) (leaving (envOfC qual scope L f cdv) e) (fun _ s'' => R (.error e) s'') (fun e' s'' => R (.error e') s'') s')
        { s with heap := h₁, toks := tk })
    (hco : scope.isCoroutine = false) (hgen : scope.isGenerator = false) (hk : scope.kind = .function) : codeAny (model prog w) A (.call (.ref f) args) R s := by
  refine codeAny_call_function hroom (X _ _ ho) rfl hco hgen rfl (codeRec_of X hcd) (hbind _ _ _ _ ?_)
  refine wpAny_newFunctionEnv_cells hk (kindsX hkind _) fun env' he s' x => ?_
  subst he
  refine ⟨T.nolimit.keeps x.toInCall.keep, codeAny_func ?_⟩
  obtain ⟨h₁, tk, rfl, _⟩ := x.done
  have hk₁ := x.toInCall.keep
  obtain ⟨cells, NC, Y⟩ := Cl.news (h₀ := s.heap) (Nat.le_refl _) fun n c hm => ⟨x.cell n c (lookup_of_mem_nodup (cellsFrom_names scope.names 0 (s.heap.objs.size + 1) [] [] rfl ▸ hnd) hm), x.above n c hm⟩
  exact h s.heap.objs.size h₁ tk cells ⟨x.toInCall.ns, hk₁, Nat.le_refl _⟩ NC Y
end
end
/-! Parts -/
section
open PyProof.Rows.LCg

/-! paths -/
inductive IntV : List Value → List Int → Prop
  | nil : IntV [] []
  | cons {i t vs ns} : IntV vs ns → IntV (.int i t :: vs) (i :: ns)
theorem IntV.length {vs : List Value} {ns : List Int} (x : IntV vs ns) : vs.length = ns.length := by
  induction x with
  | nil => rfl
  | cons _ ih => simp [ih]
theorem IntV.append {vs ws : List Value} {ns ms : List Int} (x : IntV vs ns) (y : IntV ws ms) : IntV (vs ++ ws) (ns ++ ms) := by
  induction x with
  | nil => exact y
  | cons _ ih => exact .cons ih
def PathV (P : Addr → Array Value → Prop) (v : Value) (ns : List Int) : Prop := ∃ a vs, v = .ref a ∧ P a (List.toArray vs) ∧ IntV vs ns
theorem PathV.mono {P P' : Addr → Array Value → Prop} (hp : ∀ a vs, P a vs → P' a vs) {v : Value} {ns : List Int} (x : PathV P v ns) : PathV P' v ns := let ⟨a, vs, e, h, i⟩ := x; ⟨a, vs, e, hp _ _ h, i⟩
theorem PathV.handed {P : Addr → Array Value → Prop} {v : Value} {ns : List Int} (x : PathV P v ns) : handedIn v = true := by obtain ⟨_, _, rfl, _⟩ := x; rfl
def ItV (P : Addr → Array Value → Prop) (v : Value) (x : List Int × Tm) : Prop := ∃ a vp vt, v = .ref a ∧ P a #[vp, vt] ∧ PathV P vp x.1 ∧ Tv P vt x.2.py
theorem ItV.mono {P P' : Addr → Array Value → Prop} (hp : ∀ a vs, P a vs → P' a vs) {v : Value} {x : List Int × Tm} (y : ItV P v x) : ItV P' v x := let ⟨a, vp, vt, e, h, i, j⟩ := y; ⟨a, vp, vt, e, hp _ _ h, i.mono hp, j.mono hp⟩
inductive ItL (P : Addr → Array Value → Prop) : List Value → List (List Int × Tm) → Prop
  | nil : ItL P [] []
  | cons {v vs d ds} : ItV P v d → ItL P vs ds → ItL P (v :: vs) (d :: ds)
theorem ItL.mono {P P' : Addr → Array Value → Prop} (hp : ∀ a vs, P a vs → P' a vs) {vs : List Value} {ds : List (List Int × Tm)} (x : ItL P vs ds) : ItL P' vs ds := by
  induction x with
  | nil => exact .nil
  | cons h _ ih => exact .cons (h.mono hp) ih
theorem ItL.append {P : Addr → Array Value → Prop} {vs ws : List Value} {ds es : List (List Int × Tm)} (x : ItL P vs ds) (y : ItL P ws es) : ItL P (vs ++ ws) (ds ++ es) := by
  induction x with
  | nil => exact y
  | cons h _ ih => exact .cons h ih
theorem ItL.length {P : Addr → Array Value → Prop} {vs : List Value} {ds : List (List Int × Tm)} (x : ItL P vs ds) : vs.length = ds.length := by
  induction x with
  | nil => rfl
  | cons _ _ ih => simp [ih]

def under (k : Int) (x : List Int × Tm) : List Int × Tm := (k :: x.1, x.2)
def partsL : Tm → List (List Int × Tm)
  | .leaf c => [([], .leaf c)]
  | .un t => ([], .un t) :: (partsL t).map (under 0)
  | .bin t u => ([], .bin t u) :: ((partsL t).map (under 0) ++ (partsL u).map (under 1))
theorem partsL_length : ∀ t, (partsL t).length = t.size
  | .leaf _ => rfl
  | .un t => by simp [partsL, Tm.size, partsL_length t]
  | .bin t u => by simp [partsL, Tm.size, partsL_length t, partsL_length u]
theorem partsL_path : ∀ t, ∀ x ∈ partsL t, x.1.length ≤ t.height
  | .leaf _, x, hx => by simp [partsL] at hx; simp [hx]
  | .un t, x, hx => by
    simp only [partsL, List.mem_cons, List.mem_map] at hx
    rcases hx with rfl | ⟨y, hy, rfl⟩
    · simp
    · have := partsL_path t y hy
      simp only [under, List.length_cons, Tm.height]; omega
  | .bin t u, x, hx => by
    simp only [partsL, List.mem_cons, List.mem_append, List.mem_map] at hx
    rcases hx with rfl | ⟨y, hy, rfl⟩ | ⟨y, hy, rfl⟩
    · simp
    · have := partsL_path t y hy
      simp only [under, List.length_cons, Tm.height]; omega
    · have := partsL_path u y hy
      simp only [under, List.length_cons, Tm.height]; omega

def ItAt (h : Heap) (l : Addr) (ds : List (List Int × Tm)) : Prop := ∃ vs n, h.get? l = some (PySem.W.listOf vs.toArray n) ∧ ItL (IsTup h) vs ds
def PartsC (f : Addr) (prog : Program) (w : World) (p : Program) (loose : List Str) (mean : ExcName → Option Value) (mg mb : Str → Option Value) (t : Tm) : Prop :=
  ∀ (A : Around) (s : Shared) (v : Value) (E : Value → Shared → Prop) (Q : Value → Shared → Prop),
    (hd.heap_1 w.params).In s.heap → Top p loose mean mg mb s.heap → Rm A (t.height + 1) → t.size ≤ 100 ∧ t.height ≤ 100 → Tv (IsTup s.heap) v t.py →
    (∀ l h' tk', s.heap.get? l = none → Keep s.heap h' → ItAt h' l (partsL t) → Q (.ref l) { s with heap := h', toks := tk' }) →
    wpAny (model prog w) A (call (.ref f) [v]) Q E s

section
variable {prog : Program} {w : World} {A : Around} {s : Shared} {h₀ : Heap} {L : Addr} {m : Str → Option Value} {env : Env} {news : List (Addr × Obj)} {gl : Obj → List (Addr × Obj)} {p : Program} {loose : List Str} {mean : ExcName → Option Value} {mg mb : Str → Option Value}
    {E : Value → Shared → Prop} {Q : Value → Shared → Prop}
theorem parts_use {f : Addr} {t : Tm} {v : Value} (C : PartsC f prog w p loose mean mg mb t)
    (F : Fr h₀ L s.heap m) (X : (hd.heap_1 w.params).In h₀) (T : Top p loose mean mg mb h₀) (N : News h₀ L s.heap news) (R : Rm A (t.height + 1)) (hsz : t.size ≤ 100 ∧ t.height ≤ 100) (hv : Tv (IsTup s.heap) v t.py)
    (h : ∀ l h' tk' vs n tl, Fr h₀ L h' m → News h₀ L h' ((l, PySem.W.listOf vs.toArray n) :: (news ++ tl)) → (∀ p ∈ news, p.1 ≠ l) → AllTup tl → vs.length = t.size ∧ 1 ≤ t.size → vs.length ≤ sizeLine → ItL (Tp h₀ tl) vs (partsL t) → Q (.ref l) { s with heap := h', toks := tk' }) :
    wpAny (model prog w) A (call (.ref f) [v]) Q E s := by
  refine C _ _ _ _ _ (X.keeps F.keep) (T.keeps F.keep) R hsz hv fun l h' tk' hl k ⟨vs, n, ho, hvs⟩ => ?_
  have F' := Fr.byKeep F k
  have N' := News.byKeep N k
  have ne : ∀ b o, s.heap.get? b = some o → b ≠ l := fun b o e q => by rw [q, hl] at e; cases e
  have hlen := hvs.length.trans (partsL_length t)
  have hs : (1000 : Nat) ≤ sizeLine := by decide
  refine h l h' tk' vs n (tups h₀ h') F' (fun q hq => ?_) (fun p hp => ne _ _ (N p hp).1) (allTup_tups _ _) ⟨hlen, t.size_pos⟩ (by have := hsz.1; omega) (hvs.mono fun a vs y => tp_tups F' y)
  rcases List.mem_cons.mp hq with rfl | hq
  · refine ⟨ho, fun e => ?_, ?_⟩
    · obtain ⟨oL, es, ep, hL, _⟩ := F.ns
      exact ne _ _ hL e.symm
    · cases e : h₀.get? l with
      | none => rfl
      | some o => rw [F.keep _ _ e] at hl; cases hl
  · exact News.app N' (news_tups F') q hq

theorem ItL.at {h : Heap} {tl : List (Addr × Obj)} {v : List Value} {d : List (List Int × Tm)} (x : ItL (Tp h₀ tl) v d) (F : Fr h₀ L h m) (N : News h₀ L h news) (k : ∀ p ∈ tl, p ∈ news) : ItL (IsTup h) v d := x.mono fun _ _ y => Tp.tup F N k y
/-- two tuples, one behind the other -/
theorem tup_add {t b : Addr} {vs ws : List Value} (F : Fr h₀ L s.heap m) (N : News h₀ L s.heap news) (ht : IsTup s.heap t vs.toArray) (hb : IsTup s.heap b ws.toArray) (hz : vs.length + ws.length ≤ 1000)
    (h : ∀ D h' tl, Fr h₀ L h' m → News h₀ L h' (news ++ tl) → AllTup tl → Tp h₀ tl D (vs ++ ws).toArray → Q (.ref D) { s with heap := h' }) : wpAny (model prog w) A (binaryOp .Add (.ref t) (.ref b)) Q E s := by
  have hs : (1000 : Nat) ≤ sizeLine := by decide
  refine add_tuples F N ht hb (fun e => ?_) (fun _ e => ?_) (fun _ _ h' F' N' => ?_) (by omega)
  · subst e; exact h b s.heap (tups h₀ s.heap) F (News.app N (news_tups F)) (allTup_tups _ _) (tp_tups F (by simpa using hb))
  · subst e; exact h t s.heap (tups h₀ s.heap) F (News.app N (news_tups F)) (allTup_tups _ _) (tp_tups F (by simpa using ht))
  · have N1 : News h₀ L h' news := fun q hq => N' q (.tail _ hq)
    exact h _ h' (tups h₀ h') F' (News.app N1 (news_tups F')) (allTup_tups _ _) (tp_tups F' ⟨_, (N' _ (.head _)).1, rfl, _, rfl⟩)

inductive PEnd (h₀ : Heap) (L : Addr) (m : Str → Option Value) (s : Shared) (I : Addr) (oI : Obj) (C : Addr) (oC : Obj) (D : Addr) (oD : Obj) (own tl : List (Addr × Obj)) (kt : Heap → Prop) (x : List Int × Tm) (y : Value) (s' : Shared) : Prop
  | mk (h' : Heap) (tk' : Nat) (tl' : List (Addr × Obj)) (e : s' = { s with heap := h', toks := tk' }) (F : Fr h₀ L h' m) (N : News h₀ L h' ((I, oI) :: (C, oC) :: (D, oD) :: (own ++ tl'))) (hA : AllTup tl') (st : ∀ p ∈ tl, p ∈ tl') (k : kt h') (hy : ItV (Tp h₀ tl') y x) : PEnd h₀ L m s I oI C oC D oD own tl kt x y s'
theorem PEnd.intro {h' : Heap} {tk : Nat} {I C D : Addr} {oI oC oD : Obj} {own tl l : List (Addr × Obj)} {kt : Heap → Prop} {x : List Int × Tm} {y : Value} (F : Fr h₀ L h' m) (N : News h₀ L h' l) (sI : (I, oI) ∈ l) (sC : (C, oC) ∈ l) (sD : (D, oD) ∈ l) (so : ∀ p ∈ own, p ∈ l) (st : ∀ p ∈ tl, p ∈ l) (ht : AllTup tl) (k : kt h') (hy : ItV (IsTup h') y x) :
    PEnd h₀ L m s I oI C oC D oD own tl kt x y { s with heap := h', toks := tk } :=
  ⟨h', tk, tups h₀ h', rfl, F, fun q hq => by
    rcases List.mem_cons.mp hq with rfl | hq
    · exact N _ sI
    rcases List.mem_cons.mp hq with rfl | hq
    · exact N _ sC
    rcases List.mem_cons.mp hq with rfl | hq
    · exact N _ sD
    rcases List.mem_append.mp hq with hq | hq
    · exact N _ (so _ hq)
    · exact news_tups F _ hq, allTup_tups _ _, fun q hq => by obtain ⟨a, o⟩ := q; exact mem_tups.mpr ⟨(N _ (st _ hq)).1, ht _ hq, (N _ (st _ hq)).2.2⟩, k, hy.mono fun _ _ z => tp_tups F z⟩

/-- a map over a list of parts -/
theorem CRest.parts {elt : Expr} {a b : Str} {pa pb tp : Pos} {kk : Nat} {scope : Scope} {cl : List (Str × Addr)} {kt : Heap → Prop} {Fin : List Value → List (Addr × Obj) → Prop} {own tl0 tlv : List (Addr × Obj)} {vs : List Value} {items : List (List Int × Tm)} {k : Int} {t : Tok} {ock : Obj} (_hcl : ock.data = .cell (some (.int k t)))
    (hab : (a == b) = false) (hsp : Sp own tl0 news) (hv : ItL (Tp h₀ tlv) vs items) (hk : ∀ p ∈ tlv, p ∈ tl0)
    (hbd : ∀ x ∈ items, x.1.length ≤ 100)
    (turn : ∀ (x : List Int × Tm) ap vp vt ys tl I oI D C oC m₂ h tk (E' : Value → Shared → Prop), AllTup tl → (∀ p ∈ tl0, p ∈ tl) → Tp h₀ tl ap (List.toArray vp) → IntV vp x.1 → vp.length ≤ 100 → Tv (Tp h₀ tl) vt x.2.py → tupObj oI = false → NsObj oC m₂ → m₂ a = some (.ref ap) → m₂ b = some vt → tupObj oC = false → Fr h₀ L h m →
      News h₀ L h ((I, oI) :: (C, oC) :: (D, lst ys) :: (own ++ tl)) → (∀ p ∈ own, p.1 ≠ I) → (∀ p ∈ own, p.1 ≠ C) → (∀ p ∈ own, p.1 ≠ D) → ((@Ne Nat I C) ∧ (@Ne Nat I D) ∧ (@Ne Nat C D)) →
      wpAny (model prog w) A (eval elt (compEnvC scope cl C env)) (PEnd h₀ L m { s with heap := h, toks := tk } I oI C oC D (lst ys) own tl kt (under k x)) E' { s with heap := h, toks := tk })
    (fin : ∀ ys tl, AllTup tl → (∀ p ∈ tl0, p ∈ tl) → ys.length = vs.length → ItL (Tp h₀ tl) ys (items.map (under k)) → Fin ys (own ++ tl)) :
    CRest prog w A h₀ L m env (.Tuple [.Name a pa, .Name b pb] kk tp) elt none scope cl s kt Fin vs [] news := by
  obtain ⟨rfl, ht0⟩ := hsp.eq
  suffices H : ∀ items' vs' ys tl (done : List (List Int × Tm)), ItL (Tp h₀ tl) vs' items' → (∀ x ∈ items', x ∈ items) → AllTup tl → (∀ p ∈ tl0, p ∈ tl) → ItL (Tp h₀ tl) ys (done.map (under k)) → done ++ items' = items → ys.length + vs'.length = vs.length →
      CRest prog w A h₀ L m env (.Tuple [.Name a pa, .Name b pb] kk tp) elt none scope cl s kt Fin vs' ys (own ++ tl) from
    H items vs [] tl0 [] (hv.mono fun _ _ y => Tp.grow hk y) (fun _ h => h) ht0 (fun _ h => h) .nil rfl (by simp)
  intro items'
  induction items' with
  | nil =>
    intro vs' ys tl done hv' _ ht hk' hys hd hl
    cases hv'
    rw [List.append_nil] at hd
    subst hd
    exact fin ys tl ht hk' (by simpa using hl) hys
  | cons x items' ih =>
    intro vs' ys tl done hv' hin ht hk' hys hd hl
    cases hv' with
    | @cons v vs' _ _ hvx hvr =>
      obtain ⟨T, vp0, vt, rfl, hT, ⟨ap, vp, rfl, hp, hi⟩, hx⟩ := hvx
      refine CRest.pair hab (fun I oI D h F N => Tp.tup F N (fun q hq => .tail _ (.tail _ (List.mem_append_right _ hq))) hT) ?_
      intro I oI D C oC m₂ h tk E' hI hC ha hb hC2 F N n1 n2 n3 ne
      show wpAny _ _ _ _ _ _
      refine wpAny_mono (turn x ap vp vt ys tl I oI D C oC m₂ h tk E' ht hk' hp hi (by rw [hi.length]; exact hbd _ (hin x (.head _))) hx hI hC ha hb hC2 F N (fun q hq => n1 q (List.mem_append_left _ hq)) (fun q hq => n2 q (List.mem_append_left _ hq)) (fun q hq => n3 q (List.mem_append_left _ hq)) ne) (fun y s' hy => ?_) fun _ _ e => e
      obtain ⟨h', tk', tl', rfl, F', N', ht', hk'', hkt, hy⟩ := hy
      have sub : ∀ q ∈ tl', q ∈ ((I, oI) :: (C, oC) :: (D, lst ys) :: (own ++ tl')) := fun q hq => .tail _ (.tail _ (.tail _ (List.mem_append_right _ hq)))
      refine ⟨h', tk', own ++ tl', rfl, F', N', for_all_app (fun q hq => n1 q (List.mem_append_left _ hq)) (apart_tups N' (.head _) sub ht' hI), for_all_app (fun q hq => n2 q (List.mem_append_left _ hq)) (apart_tups N' (.tail _ (.head _)) sub ht' hC2),
        for_all_app (fun q hq => n3 q (List.mem_append_left _ hq)) (apart_tups N' (.tail _ (.tail _ (.head _))) sub ht' tupObj_lst), hkt, ?_⟩
      refine ih vs' (ys ++ [y]) tl' (done ++ [x]) (hvr.mono fun _ _ z => Tp.grow hk'' z) (fun z hz => hin z (.tail _ hz)) ht' (fun q hq => hk'' q (hk' q hq)) ?_ (by simpa using hd) (by simp at hl ⊢; omega)
      rw [List.map_append]
      exact (hys.mono fun _ _ z => Tp.grow hk'' z).append (.cons hy .nil)
end
theorem w42 : True := by
  k_with "M call ref" => (case' FRESH => ((k_here; (with_reducible show wpAny _ _ (call (Value.ref 339) _ _) _ _ _); k_dflt (refine' parts_use ?C ?F ?X ?T ?N ?R ?hz ?hv ?_; (case hv => first | exact Tv.at0 (by k_asm) (by assumption) | exact Tv.at (by assumption) (by k_asm) (by k_asm) (by k_all)); (case C => assumption); (case F => k_asm); (case X => k_asm); (case T => k_asm); (case N => k_asm); (case R => first | exact Rm.deeper (by assumption) | exact Rm.le (Rm.deeper (by assumption)) (by omega)); (case hz => first | assumption | omega); k_whole); intro l' h' tk' vs' n' tl' F' N' l1 hA' hn' hz' hd'; (try simp only [List.cons_append, List.nil_append] at N'))))
  trivial
theorem w43 : True := by
  k_with "M call ref" => (case' FRESH => ((k_here; (with_reducible show wpAny _ _ (call (Value.ref 124) _ _) _ _ _); k_dflt (refine' parts_use ?C ?F ?X ?T ?N ?R ?hz ?hv ?_; (case hv => first | exact Tv.at0 (by k_asm) (by assumption) | exact Tv.at (by assumption) (by k_asm) (by k_asm) (by k_all)); (case C => assumption); (case F => k_asm); (case X => k_asm); (case T => k_asm); (case N => k_asm); (case R => first | exact Rm.deeper (by assumption) | exact Rm.le (Rm.deeper (by assumption)) (by omega)); (case hz => first | assumption | omega); k_whole); intro l' h' tk' vs' n' tl' F' N' l1 hA' hn' hz' hd'; (try simp only [List.cons_append, List.nil_append] at N'))))
  trivial
theorem w44 : True := by
  k_with "M binaryOp Add ref ref" => (case' FRESH => ((k_here; (with_reducible show wpAny _ _ (binaryOp _ (Value.ref _) (Value.ref _)) _ _ _); k_dflt (refine' tup_add ?F ?N ?a ?b ?z ?_; (case F => k_asm); (case N => k_asm); (case a => first | exact Fr.tup (by k_asm) (by assumption) | exact Fr.tupP (by assumption) (by k_asm) (by k_asm) (by k_all) | exact News.isTup (by k_asm) (by k_mem)); (case b => first | exact Fr.tupP (by assumption) (by k_asm) (by k_asm) (by k_all) | exact News.isTup (by k_asm) (by k_mem)); (case z => first | omega | (simp only [List.length_append, List.length_cons, List.length_nil]; omega)); k_whole); intro D' h' tl' F' N' hA' hD'; (try simp only [List.cons_append, List.nil_append] at N'))))
  trivial
theorem partsL_short {t : Tm} (h : t.height ≤ 100) : ∀ x ∈ partsL t, x.1.length ≤ 100 := fun x hx => Nat.le_trans (partsL_path t x hx) h
theorem w45 : True := by
  k_with "M CRest" => (case' FRESH => ((k_here; k_dflt (refine' CRest.parts ?hcl ?hab ?sp ?hv ?hk ?hbd (fun x' a' p' t' ys' tl' I' oI' D' C' oC' m' h' tk' E' hA' hs' hP' hi' hl' hx' hI' hC' ha' hb' hC2' F' N' n1' n2' n3' ne' => ?_) (fun ys' tl' hA' hs' hl' hi' => ?_); (case hcl => assumption); (case hv => assumption); (case hab => decide); (case sp => k_all); (case hk => k_all); (case hbd => first | exact partsL_short (And.right (by assumption)) | exact partsL_short (by omega))); (all_goals ((try simp only [List.cons_append, List.nil_append] at N'); (try simp only [List.cons_append, List.nil_append]); (try ((refine (?_ : let q' : _ → Shared → Prop := _; let e' : Value → Shared → Prop := _; wpAny _ _ _ q' e' _)); intro q' e')))))))
  trivial
theorem w46 : True := by
  k_with "M PEnd" => (case' FRESH => ((refine PEnd.intro (by assumption) (by assumption) (by k_mem) (by k_mem) (by k_mem) (by k_all) (by k_all) (by k_all) (by first | exact News.isList (by k_asm) (by k_mem)) ⟨_, _, _, rfl, News.isTup (by k_asm) (by k_mem), ⟨_, _, rfl, Fr.tupP (by assumption) (by k_asm) (by k_asm) (by k_all), IntV.cons (by assumption)⟩, Tv.at (by assumption) (by k_asm) (by k_asm) (by k_all)⟩)))
  trivial
section
variable {prog : Program} {w : World} {p : Program} {loose : List Str} {mean : ExcName → Option Value} {mg mb : Str → Option Value}
set_option maxHeartbeats 4000000 in
theorem parts_leaf {c : Str} : PartsC 339 prog w p loose mean mg mb (.leaf c) := by
  intro A s v E Q X T R hsz hv h
  obtain ⟨hA, dA, fA, gA, uA⟩ := A
  obtain rfl : hA = none := R.hh
  obtain ⟨a, k, rfl, hx⟩ := Tm.leaf_inv hv
  refine wpAny_call ?_
  k_dflt (refine' enterC (binds := [(Str.ofString "term", .ref a)]) X T ?ho ?hcd (Rm.room R) ?hb ?hl ?hnd ?_ ?c1 ?c2 ?c3)
  case ho => k_dflt k_is
  case hcd => k_dflt k_is
  case hb => exact BindsTo.of_eq rfl
  case hl => exact rfl
  case hnd => decide +kernel
  case c1 => rfl
  case c2 => rfl
  case c3 => rfl
  intro L h₁ tk1 cells F N Y
  k_cells Y
  refine (?_ : let mM' := _; let aA' := _; wpAny mM' aA' _ _ _ _); intro mM' aA'
  (try dsimp only)
  k_fold
  k_steps
  rename Fr _ _ _ _ => F9
  rename News _ _ _ _ => N9
  refine h _ _ _ (fresh_of N9 (by k_mem)) (Fr.keep F9) ⟨_, _, News.at N9 (by k_mem), ?_⟩
  exact .cons ⟨_, _, _, rfl, News.isTup N9 (by k_mem), ⟨_, [], rfl, News.isTup N9 (by k_mem), .nil⟩, Tv.at0 F9 hv⟩ .nil
set_option maxHeartbeats 4000000 in
theorem parts_un {t : Tm} (ih : PartsC 339 prog w p loose mean mg mb t) : PartsC 339 prog w p loose mean mg mb (.un t) := by
  intro A s v E Q X T R hsz hv h
  obtain ⟨hA, dA, fA, gA, uA⟩ := A
  obtain rfl : hA = none := R.hh
  obtain ⟨a, k, u, rfl, hx, hu⟩ := Tm.un_inv hv
  have hsz' : t.size + 1 ≤ 100 ∧ t.height + 1 ≤ 100 := hsz
  have R' : Rm _ (t.height + 1 + 1) := R
  refine wpAny_call ?_
  k_dflt (refine' enterC (binds := [(Str.ofString "term", .ref a)]) X T ?ho ?hcd (Rm.room R) ?hb ?hl ?hnd ?_ ?c1 ?c2 ?c3)
  case ho => k_dflt k_is
  case hcd => k_dflt k_is
  case hb => exact BindsTo.of_eq rfl
  case hl => exact rfl
  case hnd => decide +kernel
  case c1 => rfl
  case c2 => rfl
  case c3 => rfl
  intro L h₁ tk1 cells F N Y
  k_cells Y
  refine (?_ : let mM' := _; let aA' := _; wpAny mM' aA' _ _ _ _); intro mM' aA'
  (try dsimp only)
  k_fold
  k_steps
  rename Fr _ _ _ _ => F9
  rename News _ _ _ _ => N9
  refine h _ _ _ (fresh_of N9 (by k_mem)) (Fr.keep F9) ⟨_, _, News.at N9 (by k_mem), ?_⟩
  exact .cons ⟨_, _, _, rfl, News.isTup N9 (by k_mem), ⟨_, [], rfl, News.isTup N9 (by k_mem), .nil⟩, Tv.at0 F9 hv⟩ (ItL.at (by assumption) F9 N9 (by k_all))
set_option maxHeartbeats 4000000 in
theorem parts_bin {t u : Tm} (ih : PartsC 339 prog w p loose mean mg mb t) (ih' : PartsC 339 prog w p loose mean mg mb u) : PartsC 339 prog w p loose mean mg mb (.bin t u) := by
  intro A s v E Q X T R hsz hv h
  obtain ⟨hA, dA, fA, gA, uA⟩ := A
  obtain rfl : hA = none := R.hh
  obtain ⟨a, k, v1, v2, rfl, hx, hu, hu'⟩ := Tm.bin_inv hv
  have hs1 : t.size ≤ 100 ∧ t.height ≤ 100 := by have : t.size + u.size + 1 ≤ 100 ∧ max t.height u.height + 1 ≤ 100 := hsz; omega
  have hs2 : u.size ≤ 100 ∧ u.height ≤ 100 := by have : t.size + u.size + 1 ≤ 100 ∧ max t.height u.height + 1 ≤ 100 := hsz; omega
  have R1 : Rm _ (t.height + 1 + 1) := Rm.le R (by simp only [Tm.height]; omega)
  have R2 : Rm _ (u.height + 1 + 1) := Rm.le R (by simp only [Tm.height]; omega)
  refine wpAny_call ?_
  k_dflt (refine' enterC (binds := [(Str.ofString "term", .ref a)]) X T ?ho ?hcd (Rm.room R) ?hb ?hl ?hnd ?_ ?c1 ?c2 ?c3)
  case ho => k_dflt k_is
  case hcd => k_dflt k_is
  case hb => exact BindsTo.of_eq rfl
  case hl => exact rfl
  case hnd => decide +kernel
  case c1 => rfl
  case c2 => rfl
  case c3 => rfl
  intro L h₁ tk1 cells F N Y
  k_cells Y
  refine (?_ : let mM' := _; let aA' := _; wpAny mM' aA' _ _ _ _); intro mM' aA'
  (try dsimp only)
  k_fold
  k_steps
  rename Fr _ _ _ _ => F9
  rename News _ _ _ _ => N9
  refine h _ _ _ (fresh_of N9 (by k_mem)) (Fr.keep F9) ⟨_, _, News.at N9 (by k_mem), ?_⟩
  exact .cons ⟨_, _, _, rfl, News.isTup N9 (by k_mem), ⟨_, [], rfl, News.isTup N9 (by k_mem), .nil⟩, Tv.at0 F9 hv⟩ (.append (ItL.at (by assumption) F9 N9 (by k_all)) (ItL.at (by assumption) F9 N9 (by k_all)))
theorem parts_all : ∀ t, PartsC 339 prog w p loose mean mg mb t
  | .leaf _ => parts_leaf
  | .un t => parts_un (parts_all t)
  | .bin t u => parts_bin (parts_all t) (parts_all u)
end
end
/-! Vars -/
section
open PyProof.Rows.LCg
def qx : Str := Str.ofString "?x"
def qy : Str := Str.ofString "?y"
def IsVarC (prog : Program) (w : World) (p : Program) (loose : List Str) (mean : ExcName → Option Value) (mg mb : Str → Option Value) (t : Tm) (b : Bool) : Prop :=
  ∀ (A : Around) (s : Shared) (v : Value) (E : Value → Shared → Prop) (Q : Value → Shared → Prop),
    (hd.heap_1 w.params).In s.heap → Top p loose mean mg mb s.heap → Rm A 1 → Tv (IsTup s.heap) v t.py →
    (∀ h' tk', Keep s.heap h' → Q (.bool b) { s with heap := h', toks := tk' }) →
    wpAny (model prog w) A (call (.ref 109) [v]) Q E s
section
variable {prog : Program} {w : World} {p : Program} {loose : List Str} {mean : ExcName → Option Value} {mg mb : Str → Option Value}
set_option maxHeartbeats 4000000 in
theorem isvar_x : IsVarC prog w p loose mean mg mb (.leaf (Str.ofString "?x")) true := by
  have hb : (Txt.slice (Str.ofString "?x") none (some 1) == Str.ofString "?") = true := by decide +kernel
  intro A s v E Q X T R hv h
  obtain ⟨hA, dA, fA, gA, uA⟩ := A
  obtain rfl : hA = none := R.hh
  obtain ⟨a, k, rfl, hx⟩ := Tm.leaf_inv hv
  refine wpAny_call ?_
  k_dflt (refine' enter0 (binds := [(Str.ofString "t", .ref a)]) X T ?ho ?hcd (Rm.room R) ?hb ?hl ?_ ?c1 ?c2 ?c3 ?c4)
  case ho => k_dflt k_is
  case hcd => k_dflt k_is
  case hb => exact BindsTo.of_eq rfl
  case hl => exact locs rfl
  case c1 => rfl
  case c2 => rfl
  case c3 => rfl
  case c4 => decide
  intro L h₁ tk1 F N
  refine (?_ : let mM' := _; let aA' := _; wpAny mM' aA' _ _ _ _); intro mM' aA'
  k_fold
  k_steps
  · rename Fr _ _ _ _ => F9
    rw [hb]
    exact h _ _ (Fr.keep F9)
  · exact absurd rfl (by assumption)
set_option maxHeartbeats 4000000 in
theorem isvar_y : IsVarC prog w p loose mean mg mb (.leaf (Str.ofString "?y")) true := by
  have hb : (Txt.slice (Str.ofString "?y") none (some 1) == Str.ofString "?") = true := by decide +kernel
  intro A s v E Q X T R hv h
  obtain ⟨hA, dA, fA, gA, uA⟩ := A
  obtain rfl : hA = none := R.hh
  obtain ⟨a, k, rfl, hx⟩ := Tm.leaf_inv hv
  refine wpAny_call ?_
  k_dflt (refine' enter0 (binds := [(Str.ofString "t", .ref a)]) X T ?ho ?hcd (Rm.room R) ?hb ?hl ?_ ?c1 ?c2 ?c3 ?c4)
  case ho => k_dflt k_is
  case hcd => k_dflt k_is
  case hb => exact BindsTo.of_eq rfl
  case hl => exact locs rfl
  case c1 => rfl
  case c2 => rfl
  case c3 => rfl
  case c4 => decide
  intro L h₁ tk1 F N
  refine (?_ : let mM' := _; let aA' := _; wpAny mM' aA' _ _ _ _); intro mM' aA'
  k_fold
  k_steps
  · rename Fr _ _ _ _ => F9
    rw [hb]
    exact h _ _ (Fr.keep F9)
  · exact absurd rfl (by assumption)
set_option maxHeartbeats 4000000 in
theorem isvar_bin {t u : Tm} : IsVarC prog w p loose mean mg mb (.bin t u) false := by
  intro A s v E Q X T R hv h
  obtain ⟨hA, dA, fA, gA, uA⟩ := A
  obtain rfl : hA = none := R.hh
  obtain ⟨a, k, v1, v2, rfl, hx, hu, hu'⟩ := Tm.bin_inv hv
  refine wpAny_call ?_
  k_dflt (refine' enter0 (binds := [(Str.ofString "t", .ref a)]) X T ?ho ?hcd (Rm.room R) ?hb ?hl ?_ ?c1 ?c2 ?c3 ?c4)
  case ho => k_dflt k_is
  case hcd => k_dflt k_is
  case hb => exact BindsTo.of_eq rfl
  case hl => exact locs rfl
  case c1 => rfl
  case c2 => rfl
  case c3 => rfl
  case c4 => decide
  intro L h₁ tk1 F N
  refine (?_ : let mM' := _; let aA' := _; wpAny mM' aA' _ _ _ _); intro mM' aA'
  k_fold
  k_steps
  · rename Fr _ _ _ _ => F9
    have hb : (Txt.slice (Str.ofString "g") none (some 1) == Str.ofString "?") = false := by decide +kernel
    rw [hb]
    exact h _ _ (Fr.keep F9)
  · rename Fr _ _ _ _ => F9
    exact h _ _ (Fr.keep F9)
set_option maxHeartbeats 4000000 in
theorem parts2_leaf {c : Str} : PartsC 124 prog w p loose mean mg mb (.leaf c) := by
  intro A s v E Q X T R hsz hv h
  obtain ⟨hA, dA, fA, gA, uA⟩ := A
  obtain rfl : hA = none := R.hh
  obtain ⟨a, k, rfl, hx⟩ := Tm.leaf_inv hv
  refine wpAny_call ?_
  k_dflt (refine' enterC (binds := [(Str.ofString "t", .ref a)]) X T ?ho ?hcd (Rm.room R) ?hb ?hl ?hnd ?_ ?c1 ?c2 ?c3)
  case ho => k_dflt k_is
  case hcd => k_dflt k_is
  case hb => exact BindsTo.of_eq rfl
  case hl => exact rfl
  case hnd => decide +kernel
  case c1 => rfl
  case c2 => rfl
  case c3 => rfl
  intro L h₁ tk1 cells F N Y
  k_cells Y
  refine (?_ : let mM' := _; let aA' := _; wpAny mM' aA' _ _ _ _); intro mM' aA'
  (try dsimp only)
  k_fold
  k_steps
  rename Fr _ _ _ _ => F9
  rename News _ _ _ _ => N9
  refine h _ _ _ (fresh_of N9 (by k_mem)) (Fr.keep F9) ⟨_, _, News.at N9 (by k_mem), ?_⟩
  exact .cons ⟨_, _, _, rfl, News.isTup N9 (by k_mem), ⟨_, [], rfl, News.isTup N9 (by k_mem), .nil⟩, Tv.at0 F9 hv⟩ .nil
set_option maxHeartbeats 4000000 in
theorem parts2_bin {t u : Tm} (ih : PartsC 124 prog w p loose mean mg mb t) (ih' : PartsC 124 prog w p loose mean mg mb u) : PartsC 124 prog w p loose mean mg mb (.bin t u) := by
  intro A s v E Q X T R hsz hv h
  obtain ⟨hA, dA, fA, gA, uA⟩ := A
  obtain rfl : hA = none := R.hh
  obtain ⟨a, k, v1, v2, rfl, hx, hu, hu'⟩ := Tm.bin_inv hv
  have hs1 : t.size ≤ 100 ∧ t.height ≤ 100 := by have : t.size + u.size + 1 ≤ 100 ∧ max t.height u.height + 1 ≤ 100 := hsz; omega
  have hs2 : u.size ≤ 100 ∧ u.height ≤ 100 := by have : t.size + u.size + 1 ≤ 100 ∧ max t.height u.height + 1 ≤ 100 := hsz; omega
  have R1 : Rm _ (t.height + 1 + 1) := Rm.le R (by simp only [Tm.height]; omega)
  have R2 : Rm _ (u.height + 1 + 1) := Rm.le R (by simp only [Tm.height]; omega)
  refine wpAny_call ?_
  k_dflt (refine' enterC (binds := [(Str.ofString "t", .ref a)]) X T ?ho ?hcd (Rm.room R) ?hb ?hl ?hnd ?_ ?c1 ?c2 ?c3)
  case ho => k_dflt k_is
  case hcd => k_dflt k_is
  case hb => exact BindsTo.of_eq rfl
  case hl => exact rfl
  case hnd => decide +kernel
  case c1 => rfl
  case c2 => rfl
  case c3 => rfl
  intro L h₁ tk1 cells F N Y
  k_cells Y
  refine (?_ : let mM' := _; let aA' := _; wpAny mM' aA' _ _ _ _); intro mM' aA'
  (try dsimp only)
  k_fold
  k_steps
  rename Fr _ _ _ _ => F9
  rename News _ _ _ _ => N9
  refine h _ _ _ (fresh_of N9 (by k_mem)) (Fr.keep F9) ⟨_, _, News.at N9 (by k_mem), ?_⟩
  exact .cons ⟨_, _, _, rfl, News.isTup N9 (by k_mem), ⟨_, [], rfl, News.isTup N9 (by k_mem), .nil⟩, Tv.at0 F9 hv⟩ (.append (ItL.at (by assumption) F9 N9 (by k_all)) (ItL.at (by assumption) F9 N9 (by k_all)))
end
end
/-! Plain -/
section
open PyProof.Rows.LCg
section
variable {prog : Program} {w : World} {A : Around} {s : Shared} {h₀ : Heap} {L : Addr} {m : Str → Option Value} {env : Env} {news : List (Addr × Obj)} {gl : Obj → List (Addr × Obj)}
    {E : Value → Shared → Prop} {Q : Value → Shared → Prop}
theorem kl_last_app (p : List Value) (y : Value) : kl_last (p ++ [y]) = some (p, y) := by
  induction p with
  | nil => rfl
  | cons x p ih =>
    cases p with
    | nil => rfl
    | cons z p => simp only [List.cons_append] at ih ⊢; unfold kl_last; rw [ih]
theorem pop_use {D : Addr} {p : List Value} {y : Value} {n : Nat} (F : Fr h₀ L s.heap m) (N : News h₀ L s.heap news) (U : UpdF D (PySem.W.listOf (p ++ [y]).toArray n) news gl) (hz : p.length ≤ 1000)
    (h : ∀ h', Fr h₀ L h' m → News h₀ L h' (gl (PySem.W.listOf p.toArray (n + 1))) → Q y { s with heap := h' }) : wpAny (model prog w) A (call (.builtin "list.pop") [.ref D]) Q E s := by
  obtain ⟨pre, post, rfl, hg, a, c⟩ := U.split
  have hs : (1001 : Nat) ≤ sizeLine := by decide
  refine kl_pop F N (by simpa using kl_last_app p y) (updOf a c) (by simp; omega) fun h' F' N' => h h' F' (by rw [hg]; exact N')
/-- a list's extend by a tuple -/
theorem extT_use {D b : Addr} {v1 v2 : List Value} {n n2 : Nat} (F : Fr h₀ L s.heap m) (N : News h₀ L s.heap news) (hb : (b, ({ cls := .type "tuple", data := .seq v2.toArray n2 } : Obj)) ∈ news)
    (U : UpdF D (PySem.W.listOf v1.toArray n) news gl) (hz : v1.length + v2.length ≤ 1000)
    (h : ∀ h' n', Fr h₀ L h' m → News h₀ L h' (gl (PySem.W.listOf (v1 ++ v2).toArray n')) → Q .none { s with heap := h' }) : wpAny (model prog w) A (call (.builtin "list.extend") [.ref D, .ref b]) Q E s := by
  obtain ⟨pre, post, rfl, hg, a, c⟩ := U.split
  have hs : (1000 : Nat) ≤ sizeLine := by decide
  have hl1 : v1.toArray.size = v1.length := List.size_toArray
  have hl2 : v2.toArray.size = v2.length := List.size_toArray
  have hd : ¬(!v1.toArray.isEmpty && Builtin.List.listTooLong (v1.toArray.size + v2.toArray.size)) = true := by
    have : Builtin.List.listTooLong (v1.toArray.size + v2.toArray.size) = false := by
      unfold Builtin.List.listTooLong
      rw [hl1, hl2]
      exact decide_eq_false (by omega)
    rw [this, Bool.and_false]
    exact Bool.false_ne_true
  cases v2 with
  | nil =>
    have z := N (D, PySem.W.listOf v1.toArray n) (List.mem_append.mpr (.inr (.head _)))
    refine call_meets PySem.F.slot_list_extend ⟨_, z.1, rfl⟩ PySem.F.entry_list_extend (PySem.F.args_list_extend_2 _ _) (PySem.AutoSeq1.list_extend_list_tuple_0 D v1.toArray n b #[] n2 hd (by rw [hl1]; simp at hz; omega) (by rw [hl1]; simp at hz ⊢; omega)) ⟨z.1, (N _ hb).1, h _ n (F.change (Heap.SameBut.update ..) z.2.1 z.2.2) ?_⟩
    rw [hg, List.append_nil]
    exact kl_turn0 (fun x => x ++ #[]) N a c (by simp) rfl
  | cons x v2 =>
    refine kup_extend F N hb (by simp : v1.toArray.toList ++ (x :: v2).toArray.toList = v1 ++ x :: v2) (by simp) (updOf a c) hd (by simp at hz ⊢; omega) (by rw [hl1, hl2]; omega) fun h' F' N' => h h' (n + 1) F' (by rw [hg]; exact N')
end
def PlainC (prog : Program) (w : World) (p : Program) (loose : List Str) (mean : ExcName → Option Value) (mg mb : Str → Option Value) : Prop :=
  ∀ (A : Around) (s : Shared) (v : Value) (t : Tm) (E : Value → Shared → Prop) (Q : Value → Shared → Prop),
    (hd.heap_1 w.params).In s.heap → Top p loose mean mg mb s.heap → Rm A 1 → t.size ≤ 100 → t.Plain → Tv (IsTup s.heap) v t.py →
    (∀ h' tk', Keep s.heap h' → Q (.bool true) { s with heap := h', toks := tk' }) →
    wpAny (model prog w) A (call (.ref 152) [v]) Q E s
theorem w47 : True := by
  k_with "M call builtin:list.pop" => (case' FRESH => ((k_here; (with_reducible show wpAny _ _ (call (Value.builtin _) [Value.ref _]) _ _ _); k_dflt (refine' pop_use ?F ?N ?U ?z ?_; (case F => k_asm); (case N => k_asm); (case U => k_updF); (case z => first | assumption | omega)); intro h' F' N'; (try dsimp only at N'))))
  trivial
theorem w48 : True := by
  k_with "M call builtin:list.extend" => (case' FRESH => ((k_here; (with_reducible show wpAny _ _ (call (Value.builtin _) [Value.ref _, Value.ref _]) _ _ _); k_dflt (refine' extT_use ?F ?N ?b ?U ?z ?_; (case F => k_asm); (case N => k_asm); (case b => k_mem); (case U => k_updF); (case z => first | omega | (simp only [List.length_append, List.length_cons, List.length_nil]; omega))); intro h' n' F' N'; (try dsimp only at N'))))
  trivial
section
variable {prog : Program} {w : World} {p : Program} {loose : List Str} {mean : ExcName → Option Value} {mg mb : Str → Option Value}
def sizes : List Tm → Nat
  | [] => 0
  | t :: r => t.size + sizes r
theorem sizes_app : ∀ a b, sizes (a ++ b) = sizes a + sizes b
  | [], b => by simp [sizes]
  | t :: r, b => by simp only [List.cons_append, sizes, sizes_app r b]; omega
inductive TmL (P : Addr → Array Value → Prop) : List Value → List Tm → Prop
  | nil : TmL P [] []
  | cons {v vs t ts} : Tv P v t.py → TmL P vs ts → TmL P (v :: vs) (t :: ts)
theorem TmL.mono {P P' : Addr → Array Value → Prop} (hp : ∀ a vs, P a vs → P' a vs) {vs : List Value} {ts : List Tm} (x : TmL P vs ts) : TmL P' vs ts := by
  induction x with
  | nil => exact .nil
  | cons h _ ih => exact .cons (h.mono hp) ih
theorem TmL.append {P : Addr → Array Value → Prop} {vs ws : List Value} {ts us : List Tm} (x : TmL P vs ts) (y : TmL P ws us) : TmL P (vs ++ ws) (ts ++ us) := by
  induction x with
  | nil => exact y
  | cons h _ ih => exact .cons h ih
theorem TmL.snoc {P : Addr → Array Value → Prop} {p : List Value} {v : Value} : ∀ {ts : List Tm}, TmL P (p ++ [v]) ts → ∃ us t, ts = us ++ [t] ∧ TmL P p us ∧ Tv P v t.py := by
  induction p with
  | nil => intro ts h; cases h with | cons a b => cases b; exact ⟨[], _, rfl, .nil, a⟩
  | cons x p ih =>
    intro ts h
    cases h with
    | cons a b =>
      obtain ⟨us, t, rfl, h1, h2⟩ := ih b
      exact ⟨_ :: us, t, rfl, .cons a h1, h2⟩
theorem TmL.len {P : Addr → Array Value → Prop} {vs : List Value} {ts : List Tm} (x : TmL P vs ts) : vs.length ≤ sizes ts := by
  induction x with
  | nil => exact Nat.le_refl _
  | @cons _ _ t _ _ _ ih => have := t.size_pos; simp only [List.length_cons, sizes]; omega
def Stop (P : Prop) : Prop := P
theorem Stop.in {P : Prop} (h : Stop P) : P := h
theorem Stop.out {P : Prop} (h : P) : Stop P := h
/-- what stands at the while of is_plain_term -/
def PlainJ (h₀ : Heap) (l : Addr) (v : Value) (n : Nat) (m : Str → Option Value) (news : List (Addr × Obj)) : Prop :=
  ∃ o vs ts k tl, m = (fun y => if y = Str.ofString "one" then o else if y = Str.ofString "waiting" then some (.ref l) else if y = Str.ofString "thing" then some v else none) ∧ news = (l, PySem.W.listOf (List.toArray vs) k) :: tl ∧ AllTup tl ∧ TmL (Tp h₀ tl) vs ts ∧ (∀ t ∈ ts, t.Plain) ∧ n = sizes ts ∧ sizes ts ≤ 100
theorem isinst_tup {prog : Program} {w : World} {A : Around} {E : Value → Shared → Prop} {s : Shared} {a : Addr} {vs : Array Value} {Q : Value → Shared → Prop} (ht : IsTup s.heap a vs) (h : Q (.bool true) s) : wpAny (model prog w) A (call (.builtin "isinstance") [.ref a, .type "tuple"]) Q E s := by
  exact call_isinstance (isinstance_true (Tx := "tuple") (by with_unfolding_all rfl) (by rw [isSubtype_type]; kernel_rfl)) ⟨ht.typeIs, h⟩
theorem len_lst {prog : Program} {w : World} {A : Around} {E : Value → Shared → Prop} {s : Shared} {h₀ : Heap} {L : Addr} {news : List (Addr × Obj)} {l : Addr} {vs : List Value} {n : Nat} {Q : Value → Shared → Prop} (N : News h₀ L s.heap news) (hm : (l, PySem.W.listOf vs.toArray n) ∈ news) (hz : vs.length ≤ 1001)
    (h : ∀ t, Q (.int (vs.length : Nat) t) { s with toks := s.toks + 1 + 1 }) : wpAny (model prog w) A (call (.builtin "len") [.ref l]) Q E s := by
  refine call_len_list (News.isList N hm) (by rw [List.size_toArray]; omega) ?_
  rw [List.size_toArray]
  exact h _
theorem w49 : True := by
  k_with "M call builtin:len" => (case' FRESH => ((k_here; (with_reducible show wpAny _ _ (call (Value.builtin _) [Value.ref _]) _ _ _); k_dflt (refine' len_lst ?N ?m ?z ?_; (case N => k_asm); (case m => k_mem); (case z => first | assumption | (simp only [List.length_append, List.length_cons, List.length_nil]; omega))); intro t')))
  trivial
theorem w50 : True := by
  k_with "M call builtin:len" => (case' FRESH => ((k_here; (with_reducible show wpAny _ _ (call (Value.builtin _) [Value.ref _]) _ _ _); k_dflt (refine' len_tuple ?t ?z ?_; (case t => exact Fr.tupP (by assumption) (by k_asm) (by k_asm) (by k_all)); (case z => first | decide | (with_unfolding_all decide) | (simp; done))))))
  trivial
theorem w51 : True := by
  k_with "M call builtin:isinstance" => (case' FRESH => ((k_here; (with_reducible show wpAny _ _ (call (Value.builtin _) [Value.ref _, Value.type "tuple"]) _ _ _); k_dflt (refine' isinst_tup ?t ?_; (case t => first | exact Fr.tup (by k_asm) (by assumption) | exact Fr.tupP (by assumption) (by k_asm) (by k_asm) (by k_all) | exact News.isTup (by k_asm) (by k_mem))))))
  trivial
end
end
/-! PartAt -/
section
open PyProof.Rows.LCg
def sub : Tm → List Int → Option Tm
  | t, [] => some t
  | .leaf _, _ :: _ => none
  | .un t, i :: ns => if i = 0 then sub t ns else none
  | .bin t u, i :: ns => if i = 0 then sub t ns else if i = 1 then sub u ns else none
section
variable {prog : Program} {w : World} {A : Around} {E : Value → Shared → Prop} {s : Shared} {env : Env} {h₀ : Heap} {target : Expr} {body : List Stmt} {Q : Flow → Shared → Prop} {I : Addr} {kt : Heap → Prop}
theorem Rest.ind (inv : List Value → (Str → Option Value) → List (Addr × Obj) → Prop)
    (zero : ∀ m news h tk, inv [] m news → Fr h₀ env.locals h m → News h₀ env.locals h news → Q .next { s with heap := h, toks := tk })
    (succ : ∀ v r m news oI h tk, inv (v :: r) m news → tupObj oI = false → Fr h₀ env.locals h m → News h₀ env.locals h ((I, oI) :: news) →
      wpAny (model prog w) A (assign target env v) (fun _ s₃ => wpAny (model prog w) A (execs body env) (TurnG (UEnd h₀ env.locals s I oI kt (inv r)) Q) E s₃) E { s with heap := h, toks := tk }) :
    ∀ vs m news, inv vs m news → Rest prog w A h₀ env target body Q E s I kt vs m news := by
  intro vs
  induction vs with
  | nil => exact fun m news hi h tk F N => zero m news h tk hi F N
  | cons v r ih =>
    intro m news hi oI h tk ht F N
    refine wpAny_mono (succ v r m news oI h tk hi ht F N) (fun _ s₃ h₃ => wpAny_mono h₃ (fun f s₄ h₄ => ?_) fun _ _ e => e) fun _ _ e => e
    have up : UEnd h₀ env.locals s I oI kt (inv r) s₄ → UEnd h₀ env.locals s I oI kt (Rest prog w A h₀ env target body Q E s I kt r) s₄ := fun x => x.mono fun _ _ hi' => ih _ _ hi'
    cases f with
    | ret v => exact h₄
    | brk => exact h₄
    | next => exact up h₄
    | cont => exact up h₄
end
/-! a term as an op and its kids -/
def opOf : Tm → Str
  | .leaf x => x
  | .un _ => Str.ofString "f"
  | .bin _ _ => Str.ofString "g"
def kidsOf : Tm → List Tm
  | .leaf _ => []
  | .un t => [t]
  | .bin t u => [t, u]
theorem Tm.kids_inv {P : Addr → Array Value → Prop} {v : Value} {t : Tm} (x : Tv P v t.py) : ∃ a k vs, v = .ref a ∧ P a (List.toArray (.str (opOf t) k :: vs)) ∧ TmL P vs (kidsOf t) := by
  cases t with
  | leaf x' => obtain ⟨a, k, e, h⟩ := Tm.leaf_inv x; exact ⟨a, k, [], e, h, .nil⟩
  | un t => obtain ⟨a, k, u, e, h, h1⟩ := Tm.un_inv x; exact ⟨a, k, [u], e, h, .cons h1 .nil⟩
  | bin t u => obtain ⟨a, k, v1, v2, e, h, h1, h2⟩ := Tm.bin_inv x; exact ⟨a, k, [v1, v2], e, h, .cons h1 (.cons h2 .nil)⟩
theorem TmL.length {P : Addr → Array Value → Prop} {vs : List Value} {ts : List Tm} (x : TmL P vs ts) : vs.length = ts.length := by
  induction x with
  | nil => rfl
  | cons _ _ ih => simp [ih]
theorem TmL.get {P : Addr → Array Value → Prop} {vs : List Value} {ts : List Tm} (x : TmL P vs ts) : ∀ (i : Nat) (v : Value), vs[i]? = some v → ∃ t, ts[i]? = some t ∧ Tv P v t.py := by
  induction x with
  | nil => intro i v h; simp at h
  | @cons v' vs t ts hv _ ih =>
    intro i v h
    cases i with
    | zero => simp at h; subst h; exact ⟨t, rfl, hv⟩
    | succ i => simpa using ih i v (by simpa using h)
theorem kids_few (t : Tm) : (kidsOf t).length ≤ 2 := by cases t <;> simp [kidsOf]
theorem sub_cons (t : Tm) (i : Int) (ns : List Int) : sub t (i :: ns) = if 0 ≤ i then ((kidsOf t)[i.toNat]?).bind fun k => sub k ns else none := by
  cases t with
  | leaf x => simp [sub, kidsOf]
  | un t =>
    simp only [sub, kidsOf]
    by_cases h : i = 0
    · subst h; simp
    · rw [if_neg h]
      by_cases h0 : 0 ≤ i
      · rw [if_pos h0, List.getElem?_eq_none (by simp; omega)]; rfl
      · rw [if_neg h0]
  | bin t u =>
    simp only [sub, kidsOf]
    by_cases h : i = 0
    · subst h; simp
    · rw [if_neg h]
      by_cases h1 : i = 1
      · subst h1; simp
      · rw [if_neg h1]
        by_cases h0 : 0 ≤ i
        · rw [if_pos h0, List.getElem?_eq_none (by simp; omega)]; rfl
        · rw [if_neg h0]
theorem len_sym {prog : Program} {w : World} {A : Around} {E : Value → Shared → Prop} {s : Shared} {a : Addr} {l : List Value} {Q : Value → Shared → Prop} (ht : IsTup s.heap a l.toArray) (hz : l.length ≤ 1000)
    (h : ∀ t, Q (.int (l.length : Nat) t) { s with toks := s.toks + 1 + 1 }) : wpAny (model prog w) A (call (.builtin "len") [.ref a]) Q E s := by
  refine len_tuple ht (by rw [List.size_toArray]; omega) ?_
  rw [List.size_toArray]
  exact h _
theorem item_sym {prog : Program} {w : World} {A : Around} {E : Value → Shared → Prop} {s : Shared} {value slice : PySem.Expr} {a : Addr} {x0 : Value} {vs : List Value} {i : Int} {u : Tok} {Q : Value → Shared → Prop} (ht : IsTup s.heap a (List.toArray (x0 :: vs))) (hz : vs.length ≤ 1000) (h0 : 0 ≤ i) (h1 : i < (((x0 :: vs).length : Nat) : Int) - 1)
    (h : ∀ v, vs[i.toNat]? = some v → Q v s) (hs : subscripted slice false (.ref a) (.int (i + 1) u) = operate [.ref a, .int (i + 1) u] (getItem (.ref a) (.int (i + 1) u))) :
    wpAny (model prog w) A (subscriptTail value slice (.ref a) (.int (i + 1) u)) Q E s := by
  have hl : i.toNat < vs.length := by simp at h1; omega
  refine item_tupleT (j := i.toNat + 1) (x := vs[i.toNat]) ht (by omega) (by simp at h1; omega) ?_ ?_ (h _ (List.getElem?_eq_getElem hl)) hs
  · have e1 : ¬ (i + 1 < 0) := by omega
    have e2 : (0 ≤ i + 1 && decide (i + 1 < ((x0 :: vs).length : Int))) = true := by
      rw [Bool.and_eq_true, decide_eq_true_eq, decide_eq_true_eq]; exact ⟨by omega, by omega⟩
    unfold seqIndex?
    rw [if_neg e1]
    show (if (0 ≤ i + 1 && decide (i + 1 < ((x0 :: vs).length : Int))) = true then some (i + 1).toNat else none) = _
    rw [if_pos e2]
    congr 1
    omega
  · simp [List.getElem?_eq_getElem hl]
def PartAtC (prog : Program) (w : World) (p : Program) (loose : List Str) (mean : ExcName → Option Value) (mg mb : Str → Option Value) : Prop :=
  ∀ (A : Around) (s : Shared) (v pv : Value) (t u : Tm) (ns : List Int) (E : Value → Shared → Prop) (Q : Value → Shared → Prop),
    (hd.heap_1 w.params).In s.heap → Top p loose mean mg mb s.heap → Rm A 1 → sub t ns = some u → PathV (IsTup s.heap) pv ns → Tv (IsTup s.heap) v t.py →
    (∀ v' h' tk', Keep s.heap h' → Tv (IsTup s.heap) v' u.py → Q v' { s with heap := h', toks := tk' }) →
    wpAny (model prog w) A (call (.ref 131) [v, pv]) Q E s
def PartJ (h₀ : Heap) (ap : Addr) (u : Tm) (vs : List Value) (m : Str → Option Value) (news : List (Addr × Obj)) : Prop :=
  news = [] ∧ ∃ ns t v o, IntV vs ns ∧ sub t ns = some u ∧ Tv (IsTup h₀) v t.py ∧ m = (fun y => if y = Str.ofString "t" then some v else if y = Str.ofString "k" then o else if y = Str.ofString "path" then some (.ref ap) else none)
theorem part_m {v v' : Value} {o : Option Value} {k : Value} {ap : Addr} : (fun y => if y = Str.ofString "t" then some v' else if y = Str.ofString "k" then some k else if y = Str.ofString "t" then some v else if y = Str.ofString "k" then o else if y = Str.ofString "path" then some (.ref ap) else none) =
    (fun y => if y = Str.ofString "t" then some v' else if y = Str.ofString "k" then some k else if y = Str.ofString "path" then some (.ref ap) else (none : Option Value)) := by
  funext y
  by_cases e : y = Str.ofString "t"
  · rw [if_pos e, if_pos e]
  · by_cases e2 : y = Str.ofString "k"
    · rw [if_neg e, if_pos e2, if_neg e, if_pos e2]
    · rw [if_neg e, if_neg e2, if_neg e, if_neg e2, if_neg e, if_neg e2]
theorem part_m0 {v : Value} {ap : Addr} : (fun y => List.lookup y [(Str.ofString "t", v), (Str.ofString "path", .ref ap)].reverse) =
    (fun y => if y = Str.ofString "t" then some v else if y = Str.ofString "k" then none else if y = Str.ofString "path" then some (.ref ap) else (none : Option Value)) := by
  funext y
  show List.lookup y [(Str.ofString "path", Value.ref ap), (Str.ofString "t", v)] = _
  by_cases e : y = Str.ofString "t"
  · subst e; rw [if_pos rfl]; rfl
  · rw [if_neg e]
    by_cases e2 : y = Str.ofString "k"
    · subst e2; rw [if_pos rfl]; rfl
    · rw [if_neg e2]
      by_cases e3 : y = Str.ofString "path"
      · subst e3; rw [if_pos rfl]; rfl
      · rw [if_neg e3]
        have h1 : (y == Str.ofString "path") = false := by cases q : (y == Str.ofString "path") with | false => rfl | true => exact absurd (by simpa using q) e3
        have h2 : (y == Str.ofString "t") = false := by cases q : (y == Str.ofString "t") with | false => rfl | true => exact absurd (by simpa using q) e
        simp [List.lookup, h1, h2]
theorem w52 : True := by
  k_with "M exec For Name Name cons nil" => (case' FRESH => ((k_here; k_dflt (refine' for_gen ?_ ?hs ?hE; (case hs => intro _; with_unfolding_all rfl); (case hE => passes_own); k_whole))))
  trivial
section
variable {prog : Program} {w : World} {p : Program} {loose : List Str} {mean : ExcName → Option Value} {mg mb : Str → Option Value}
theorem w53 : True := by
  k_with "M call builtin:len" => ((fail_if_success (have := endOfPartAt)); case' FRESH => ((k_here; (with_reducible show wpAny _ _ (call (Value.builtin _) [Value.ref _]) _ _ _); k_dflt (refine' len_sym ?t ?z ?_; (case t => exact Fr.tup (by k_asm) (by assumption)); (case z => assumption)); intro t')))
  trivial
theorem w54 : True := by
  k_with "M subscriptTail" => ((fail_if_success (have := endOfPartAt)); case' FRESH => ((k_here; (with_reducible show wpAny _ _ (subscriptTail _ _ (Value.ref _) (Value.int (_ + 1) _)) _ _ _); k_dflt (refine' item_sym ?t ?z ?a ?b ?_ ?s; (case t => exact Fr.tup (by k_asm) (by assumption)); (case z => assumption); (case a => assumption); (case b => assumption); (case s => with_unfolding_all rfl)); intro v' hv')))
  trivial
theorem w55 : True := by
  k_with "M Rest" => ((fail_if_success (have := endOfPartAt)); case' FRESH => ((refine Stop.in ?_)))
  trivial
set_option maxHeartbeats 4000000 in
theorem partAt_spec : PartAtC prog w p loose mean mg mb := by
  intro A s v pv t u ns E Q X T R hsub hpv hv h
  obtain ⟨hA, dA, fA, gA, uA⟩ := A
  obtain rfl : hA = none := R.hh
  obtain ⟨ap, vs, rfl, hpt, hpi⟩ := hpv
  refine wpAny_call ?_
  k_dflt (refine' enter0 (binds := [(Str.ofString "t", v), (Str.ofString "path", .ref ap)]) X T ?ho ?hcd (Rm.room R) ?hb ?hl ?_ ?c1 ?c2 ?c3 ?c4)
  case ho => k_dflt k_is
  case hcd => k_dflt k_is
  case hb => exact BindsTo.of_eq rfl
  case hl => exact locs rfl
  case c1 => rfl
  case c2 => rfl
  case c3 => rfl
  case c4 => decide
  intro L h₁ tk1 F N
  refine (?_ : let mM' := _; let aA' := _; wpAny mM' aA' _ _ _ _); intro mM' aA'
  k_fold
  k_steps
  refine Stop.out ?_
  refine Rest.ind (PartJ s.heap ap u) ?zero ?succ _ _ _ ⟨rfl, ns, t, v, none, hpi, hsub, hv, part_m0⟩
  case zero =>
    intro m news h' tk hi F' N'
    obtain ⟨rfl, ns', t', v', o, hi, hs, ht, rfl⟩ := hi
    cases hi
    have hs' : t' = u := by cases t' <;> (simp only [sub] at hs; exact Option.some.inj hs)
    subst hs'
    clear F N
    refine (?_ : let mM' := _; let aA' := _; wpAny mM' aA' _ _ _ _); intro mM' aA'
    k_steps
    rename Fr _ _ _ _ => F9
    exact h _ _ _ (Fr.keep F9) ht
  case succ =>
    intro v' r m news oI h' tk hi hoI F' N'
    obtain ⟨rfl, ns', t', v1, o, hi, hs, ht, rfl⟩ := hi
    cases hi with
    | @cons i tki _ ns2 hi =>
      clear hv h hpi hsub N F
      obtain ⟨a, kx, kvs, rfl, hx, hk⟩ := Tm.kids_inv ht
      have hkl := hk.length
      have hkf := kids_few t'
      have hz : (Value.str (opOf t') kx :: kvs).length ≤ 1000 := by rw [List.length_cons]; omega
      have hz2 : kvs.length ≤ 1000 := by omega
      rw [sub_cons] at hs
      have hi0 : 0 ≤ i := by
        cases Int.decLt i 0 with
        | isTrue q => rw [if_neg (Int.not_le.mpr q)] at hs; cases hs
        | isFalse q => exact Int.not_lt.mp q
      rw [if_pos hi0] at hs
      obtain ⟨t1, e1, hs1⟩ := Option.bind_eq_some_iff.mp hs
      have hi1 : i.toNat < kvs.length := by
        rw [hkl]; exact (List.getElem?_eq_some_iff.mp e1).1
      have hb1 : -1000 ≤ i := by omega
      have hb2 : i ≤ 1000 := by omega
      clear hkf ht hs
      refine (?_ : let mM' := _; let aA' := _; wpAny mM' aA' _ _ _ _); intro mM' aA'
      k_steps
      · obtain ⟨t2, e2, ht2⟩ := hk.get _ _ (by assumption)
        rw [e1] at e2
        cases e2
        exact ⟨rfl, ns2, t1, _, some _, hi, hs1, ht2, part_m⟩
      all_goals (exfalso; rename (¬ _ < _) => hz9; simp at hz9; omega)
end
end
theorem endOfPartAt : True := trivial
/-! Rep -/
section
open PyProof.Rows.LCg
/-! comparing data -/
theorem Tm.leaf_eq {x y : Str} : PyData.eqv (Tm.leaf x).py (Tm.leaf y).py = (x == y) := by
  simp [Tm.py, PyData.eqv, PyData.eqvAll]
def Tm.same : Tm → Tm → Bool
  | .leaf x, .leaf y => x == y
  | .un t, .un u => t.same u
  | .bin a b, .bin c d => a.same c && b.same d
  | _, _ => false
theorem Tm.same_iff : ∀ t u : Tm, t.same u = true ↔ t = u
  | .leaf x, .leaf y => by simp [Tm.same]
  | .un t, .un u => by simp [Tm.same, Tm.same_iff t u]
  | .bin a b, .bin c d => by simp [Tm.same, Tm.same_iff a c, Tm.same_iff b d]
  | .leaf _, .un _ => by simp [Tm.same]
  | .leaf _, .bin _ _ => by simp [Tm.same]
  | .un _, .leaf _ => by simp [Tm.same]
  | .un _, .bin _ _ => by simp [Tm.same]
  | .bin _ _, .leaf _ => by simp [Tm.same]
  | .bin _ _, .un _ => by simp [Tm.same]
theorem str_eqb (x y : Str) : (x == y) = true ↔ x = y := by simp
theorem fg_ne : (Str.ofString "f" == Str.ofString "g") = false := by decide +kernel
theorem gf_ne : (Str.ofString "g" == Str.ofString "f") = false := by decide +kernel
theorem eqv_py : ∀ t u : Tm, PyData.eqv t.py u.py = t.same u
  | .leaf x, .leaf y => by simp [Tm.py, PyData.eqv, PyData.eqvAll, Tm.same]
  | .un t, .un u => by simp [Tm.py, PyData.eqv, PyData.eqvAll, Tm.same, eqv_py t u]
  | .bin a b, .bin c d => by simp [Tm.py, PyData.eqv, PyData.eqvAll, Tm.same, eqv_py a c, eqv_py b d]
  | .leaf _, .un _ => by simp [Tm.py, PyData.eqv, PyData.eqvAll, Tm.same]
  | .leaf _, .bin _ _ => by simp [Tm.py, PyData.eqv, PyData.eqvAll, Tm.same]
  | .un _, .leaf _ => by simp [Tm.py, PyData.eqv, PyData.eqvAll, Tm.same]
  | .un _, .bin _ _ => by simp [Tm.py, PyData.eqv, PyData.eqvAll, Tm.same]
  | .bin _ _, .leaf _ => by simp [Tm.py, PyData.eqv, PyData.eqvAll, Tm.same]
  | .bin _ _, .un _ => by simp [Tm.py, PyData.eqv, PyData.eqvAll, Tm.same]
theorem lay_py : ∀ t : Tm, t.Plain → t.py.canLay0 = true
  | .leaf x, h => by
    rcases h with rfl | rfl
    · simp only [Tm.py, PyData.canLay0, PyData.canLayAll0]; decide +kernel
    · simp only [Tm.py, PyData.canLay0, PyData.canLayAll0]; decide +kernel
  | .un t, h => by
    have : PyData.canLay0 (.str (Str.ofString "f")) = true := by decide +kernel
    simp [Tm.py, PyData.canLay0, PyData.canLayAll0, lay_py t h] at this ⊢
    exact this
  | .bin a b, h => by
    have : PyData.canLay0 (.str (Str.ofString "g")) = true := by decide +kernel
    simp [Tm.py, PyData.canLay0, PyData.canLayAll0, lay_py a h.1, lay_py b h.2] at this ⊢
    exact this
theorem depth_py : ∀ t : Tm, t.py.depth ≤ t.height + 1
  | .leaf x => by simp [Tm.py, PyData.depth, PyData.depthAll]
  | .un t => by have := depth_py t; simp [Tm.py, PyData.depth, PyData.depthAll, Tm.height]; omega
  | .bin a b => by have := depth_py a; have := depth_py b; simp [Tm.py, PyData.depth, PyData.depthAll, Tm.height]; omega
theorem shaped_py {t : Tm} (h : t.Plain) (hh : t.height ≤ 60) : PySem.SeqAt.shaped t.py = true := by
  unfold PySem.SeqAt.shaped
  rw [lay_py t h, Bool.true_and]
  have := depth_py t
  exact decide_eq_true (by omega)
theorem lay_ints : ∀ ns : List Int, PyData.canLayAll0 (ns.map .int) = true
  | [] => rfl
  | _ :: r => by simp [PyData.canLayAll0, PyData.canLay0, lay_ints r]
theorem depth_ints : ∀ ns : List Int, PyData.depthAll (ns.map .int) = 0
  | [] => rfl
  | _ :: r => by simp [PyData.depthAll, PyData.depth, depth_ints r]
theorem shaped_ints (ns : List Int) : PySem.SeqAt.shaped (.tuple (ns.map .int)) = true := by
  unfold PySem.SeqAt.shaped
  simp [PyData.canLay0, lay_ints, PyData.depth, depth_ints]
theorem IntV.reads {h : Heap} {vs : List Value} {ns : List Int} (x : IntV vs ns) : ReadsAll h vs (ns.map .int) [] := by
  induction x with
  | nil => exact .nil
  | cons _ ih => exact .cons (as := []) (bs := []) (.int _ _) ih
theorem PathV.reads {h : Heap} {v : Value} {ns : List Int} (x : PathV (IsTup h) v ns) : Reads h v (.tuple (ns.map .int)) [] := by
  obtain ⟨a, vs, rfl, ⟨o, ho, hc, n, hd⟩, hi⟩ := x
  exact .tuple ho hc hd (by simpa using hi.reads)

/-! slices of a tuple of any length -/
theorem fm_all {α : Type} : ∀ l : List α, ((List.range l.length).filterMap fun k => l[k]?) = l
  | [] => rfl
  | x :: r => by
    rw [List.length_cons, List.range_succ_eq_map, List.filterMap_cons]
    simp only [List.getElem?_cons_zero, List.filterMap_map]
    congr 1
    have := fm_all r
    simpa [Function.comp_def] using this
theorem tail_sel (n : Nat) : tsel (n + 1) (some 1) none none = (1, 1, n) := by
  unfold tsel Builtin.Slice.sliceAdjust Builtin.Slice.slicePlaces
  simp only [Option.getD_none]
  have h1 : min (1 : Int) ((n : Int) + 1) = 1 := Int.min_eq_left (Int.le_add_of_nonneg_left (Int.natCast_nonneg n))
  simp [h1]
  split
  · rfl
  · rename_i h
    exact (Nat.eq_zero_of_le_zero (Nat.le_of_not_lt fun q => h (Int.lt_add_of_pos_left 1 (Int.ofNat_lt.mpr q)))).symm
theorem tail_slice (x : Value) (r : List Value) : tslice (x :: r).toArray (some 1) none none = r := by
  unfold tslice
  rw [List.size_toArray, List.length_cons, tail_sel]
  have e : ∀ k : Nat, ((1 : Int) + (k : Int) * 1).toNat = k + 1 := fun k => by omega
  simp only [e]
  simpa using fm_all r
theorem head_sel (n : Nat) : tsel (n + 1) none (some 1) none = (0, 1, 1) := by
  unfold tsel Builtin.Slice.sliceAdjust Builtin.Slice.slicePlaces
  simp only [Option.getD_none]
  have h1 : min (1 : Int) ((n : Int) + 1) = 1 := by omega
  simp [h1]
theorem head_slice (x : Value) (r : List Value) : tslice (x :: r).toArray none (some 1) none = [x] := by
  unfold tslice
  rw [List.size_toArray, List.length_cons, head_sel]
  simp [List.range_succ_eq_map]
section
variable {prog : Program} {w : World} {A : Around} {E : Value → Shared → Prop} {s : Shared} {h₀ : Heap} {L : Addr} {m : Str → Option Value} {news : List (Addr × Obj)}
theorem slice_any {value slice : Expr} {t : Addr} {l out : List Value} {vl vu vk : Value} {lo hi : Option Int} {Q : Value → Shared → Prop}
    (F : Fr h₀ L s.heap m) (N : News h₀ L s.heap news) (ht : IsTup s.heap t l.toArray) (pl : IsPart vl lo) (pu : IsPart vu hi) (pk : IsPart vk none)
    (e : tslice l.toArray lo hi none = out) (hwh : twhole l.length lo hi none = true → out = l) (hz : out.length ≤ 1000)
    (h : ∀ D h' tl, Fr h₀ L h' m → News h₀ L h' (news ++ tl) → AllTup tl → Tp h₀ tl D out.toArray → Q (.ref D) { s with heap := h' })
    (hs : subscripted slice false (.ref t) (.ref s.heap.objs.size) = operate [.ref s.heap.objs.size, .ref t] (getItem (.ref t) (.ref s.heap.objs.size)))
    (hg : ∀ r, letTemporaryGo value (.ref t) r = pure ()) :
    wpAny (model prog w) A (subscriptTail value slice (.ref t) (.ref s.heap.objs.size)) Q E { s with heap := s.heap.push { cls := .type "slice", data := .fields #[vl, vu, vk] } } := by
  have hsz : (1000 : Nat) ≤ sizeLine := by decide
  cases hw : twhole l.length lo hi none with
  | true =>
    have e1 := hwh hw
    refine tup_slice_whole F N ht pl pu pk rfl (by rw [List.size_toArray]; exact hw) (by rw [e]; omega) (fun h' F' N' k => ?_) hs hg
    exact h t h' (tups h₀ h') F' (News.app N' (news_tups F')) (allTup_tups _ _) (tp_tups F' (by rw [e1]; exact ht.keeps k))
  | false =>
    refine tup_slice F N ht pl pu pk rfl (by rw [List.size_toArray]; exact hw) e (by omega) (fun D h' F' N' _ => ?_) hs hg
    have N1 : News h₀ L h' news := fun q hq => N' q (.tail _ hq)
    exact h D h' (tups h₀ h') F' (News.app N1 (news_tups F')) (allTup_tups _ _) (tp_tups F' ⟨_, (N' _ (.head _)).1, rfl, _, rfl⟩)
theorem tail_whole {x : Value} {r : List Value} (h : twhole (x :: r).length (some 1) none none = true) : r = x :: r := by
  unfold twhole at h
  rw [List.length_cons, tail_sel] at h
  simp at h
theorem head_whole {x : Value} {r : List Value} (h : twhole (x :: r).length none (some 1) none = true) : [x] = x :: r := by
  unfold twhole at h
  rw [List.length_cons, head_sel] at h
  cases r with
  | nil => rfl
  | cons y r => simp at h
theorem eq_nil {a e : Addr} {Q : Value → Shared → Prop} (ha : IsTup s.heap a ([] : List Value).toArray) (he : IsTup s.heap e ([] : List Value).toArray) (hu : A.units + 64 < cLine) (h : Q (.bool true) s) : wpAny (model prog w) A (compareOp .Eq (.ref a) (.ref e)) Q E s :=
  eq_dataH (PathV.reads ⟨a, [], rfl, ha, .nil⟩) (PathV.reads ⟨e, [], rfl, he, .nil⟩) (shaped_ints []) (shaped_ints []) hu (by simpa [PyData.eqv, PyData.eqvAll] using h)
theorem eq_cons {a e : Addr} {i : Int} {t : Tok} {r : List Value} {ns : List Int} {Q : Value → Shared → Prop} (ha : IsTup s.heap a (Value.int i t :: r).toArray) (hi : IntV r ns) (he : IsTup s.heap e ([] : List Value).toArray) (hu : A.units + 64 < cLine) (h : Q (.bool false) s) : wpAny (model prog w) A (compareOp .Eq (.ref a) (.ref e)) Q E s :=
  eq_dataH (PathV.reads ⟨a, _, rfl, ha, .cons hi⟩) (PathV.reads ⟨e, [], rfl, he, .nil⟩) (shaped_ints (i :: ns)) (shaped_ints []) hu (by simpa [PyData.eqv, PyData.eqvAll] using h)
theorem Rm.units {A : Around} {k : Nat} {env : Env} (r : Rm A k) : (A.deeper env).units + 64 < cLine := by
  have := r.un
  have h : cLine = 9900 := by decide
  simp only [Around.deeper]
  omega
end
def rep : Tm → List Int → Tm → Tm
  | _, [], u => u
  | .leaf x, _ :: _, _ => .leaf x
  | .un t, _ :: ns, u => .un (rep t ns u)
  | .bin a b, i :: ns, u => if i = 0 then .bin (rep a ns u) b else .bin a (rep b ns u)
theorem rep_nil (t u : Tm) : rep t [] u = u := by cases t <;> rfl
section
variable {prog : Program} {w : World} {A : Around} {s : Shared} {h₀ : Heap} {L : Addr} {m : Str → Option Value} {news : List (Addr × Obj)} {p : Program} {loose : List Str} {mean : ExcName → Option Value} {mg mb : Str → Option Value} {E : Value → Shared → Prop} {Q : Value → Shared → Prop}
theorem partAt_use {v pv : Value} {t u : Tm} {ns : List Int} (F : Fr h₀ L s.heap m) (X : (hd.heap_1 w.params).In h₀) (T : Top p loose mean mg mb h₀) (N : News h₀ L s.heap news) (R : Rm A 1) (hs : sub t ns = some u) (hpv : PathV (IsTup s.heap) pv ns) (hv : Tv (IsTup s.heap) v t.py)
    (h : ∀ v' h' tk' tl, Fr h₀ L h' m → News h₀ L h' (news ++ tl) → AllTup tl → Tv (Tp h₀ tl) v' u.py → Q v' { s with heap := h', toks := tk' }) :
    wpAny (model prog w) A (call (.ref 131) [v, pv]) Q E s := by
  refine partAt_spec _ _ _ _ _ _ _ _ _ (X.keeps F.keep) (T.keeps F.keep) R hs hpv hv fun v' h' tk' k hv' => ?_
  have F' := Fr.byKeep F k
  exact h v' h' tk' (tups h₀ h') F' (News.app (News.byKeep N k) (news_tups F')) (allTup_tups _ _) (hv'.mono fun a vs y => tp_tups F' (y.keeps k))
def ReplC (prog : Program) (w : World) (p : Program) (loose : List Str) (mean : ExcName → Option Value) (mg mb : Str → Option Value) (ns : List Int) : Prop :=
  ∀ (A : Around) (s : Shared) (v pv vu : Value) (t x u : Tm) (E : Value → Shared → Prop) (Q : Value → Shared → Prop),
    (hd.heap_1 w.params).In s.heap → Top p loose mean mg mb s.heap → Rm A (ns.length + 2) → ns.length ≤ 10 → sub t ns = some x → PathV (IsTup s.heap) pv ns → Tv (IsTup s.heap) v t.py → Tv (IsTup s.heap) vu u.py →
    (∀ v' h' tk', Keep s.heap h' → Tv (IsTup h') v' (rep t ns u).py → Q v' { s with heap := h', toks := tk' }) →
    wpAny (model prog w) A (call (.ref 138) [v, pv, vu]) Q E s
theorem repl_use {v pv vu : Value} {t x u : Tm} {ns : List Int} (C : ReplC prog w p loose mean mg mb ns) (F : Fr h₀ L s.heap m) (X : (hd.heap_1 w.params).In h₀) (T : Top p loose mean mg mb h₀) (N : News h₀ L s.heap news) (R : Rm A (ns.length + 2)) (hl : ns.length ≤ 10) (hs : sub t ns = some x) (hpv : PathV (IsTup s.heap) pv ns) (hv : Tv (IsTup s.heap) v t.py) (hu : Tv (IsTup s.heap) vu u.py)
    (h : ∀ v' h' tk' tl, Fr h₀ L h' m → News h₀ L h' (news ++ tl) → AllTup tl → Tv (Tp h₀ tl) v' (rep t ns u).py → Q v' { s with heap := h', toks := tk' }) :
    wpAny (model prog w) A (call (.ref 138) [v, pv, vu]) Q E s := by
  refine C _ _ _ _ _ _ _ _ _ _ (X.keeps F.keep) (T.keeps F.keep) R hl hs hpv hv hu fun v' h' tk' k hv' => ?_
  have F' := Fr.byKeep F k
  exact h v' h' tk' (tups h₀ h') F' (News.app (News.byKeep N k) (news_tups F')) (allTup_tups _ _) (hv'.mono fun a vs y => tp_tups F' y)
end
theorem seq_zero (n : Nat) : seqIndex? 0 (n + 1) = some 0 := by
  unfold seqIndex?
  simp
theorem seq_zero' (x : Value) (r : List Value) : seqIndex? 0 (x :: r).length = some 0 := seq_zero _
theorem PathV.of {P : Addr → Array Value → Prop} {a : Addr} {vs : List Value} {ns : List Int} (h : P a vs.toArray) (i : IntV vs ns) : PathV P (.ref a) ns := ⟨a, vs, rfl, h, i⟩
theorem w56 : True := by
  k_with "M subscriptTail Name Slice ref ref" => (case' FRESH => ((k_here; (with_reducible show wpAny _ _ (subscriptTail _ (PySem.Expr.Slice _ _ _ _) (Value.ref _) (Value.ref _)) _ _ _); k_dflt (refine' slice_any ?F ?N ?t ?p ?q ?k ?e ?w ?z ?_ ?s ?g; (case F => k_asm); (case N => k_asm); (case p => kmk_part); (case q => kmk_part); (case k => kmk_part); (case t => first | exact Fr.tup (by k_asm) (by assumption)); (case e => first | exact tail_slice _ _ | exact head_slice _ _); (case w => first | exact tail_whole | exact head_whole); (case z => first | assumption | exact Nat.le_of_ble_eq_true rfl); (case s => with_unfolding_all rfl); (case g => kmk_pure)); intro D' h' tl' F' N' hA' hD'; (try simp only [List.cons_append, List.nil_append] at N'))))
  trivial
theorem w57 : True := by
  k_with "M subscriptTail" => (case' FRESH => ((k_here; (with_reducible show wpAny _ _ (subscriptTail _ _ (Value.ref _) (Value.int 0 _)) _ _ _); k_dflt (refine' item_tupleT ?k1 ?k2 ?k3 ?k4 ?k5 ?_ ?k6; (case k1 => exact Fr.tup (by k_asm) (by assumption)); (case k2 => decide); (case k3 => decide); (case k4 => exact seq_zero' _ _); (case k5 => rfl); (case k6 => with_unfolding_all rfl); k_whole))))
  trivial
theorem w58 : True := by
  k_with "M compareOp Eq ref ref" => (case' FRESH => ((k_here; k_dflt (first
  | (refine' eq_nil ?a ?e ?u ?_; (case a => exact Fr.tup (by k_asm) (by assumption)); (case e => exact News.isTup (by k_asm) (by k_mem)); (case u => exact Rm.units (by assumption)); k_whole)
  | (refine' eq_cons ?a ?i ?e ?u ?_; (case a => exact Fr.tup (by k_asm) (by assumption)); (case i => assumption); (case e => exact News.isTup (by k_asm) (by k_mem)); (case u => exact Rm.units (by assumption)); k_whole)))))
  trivial
theorem w59 : True := by
  k_with "M call ref" => (case' FRESH => ((k_here; (with_reducible show wpAny _ _ (call (Value.ref 131) _ _) _ _ _); k_dflt (refine' partAt_use ?F ?X ?T ?N ?R ?hs ?hp ?hv ?_; (case F => k_asm); (case X => k_asm); (case T => k_asm); (case N => k_asm); (case R => exact Rm.le (Rm.deeper (by assumption)) (by omega)); (case hv => first | exact Tv.at0 (by k_asm) (by assumption) | exact Tv.at (by assumption) (by k_asm) (by k_asm) (by k_all)); (case hp => exact PathV.of (Fr.tupP (by assumption) (by k_asm) (by k_asm) (by k_all)) (by first | assumption | exact IntV.cons .nil)); (case hs => first | assumption | rfl); k_whole); intro v' h' tk' tl' F' N' hA' hd'; (try simp only [List.cons_append, List.nil_append] at N'))))
  trivial
theorem w60 : True := by
  k_with "M call ref" => (case' FRESH => ((k_here; (with_reducible show wpAny _ _ (call (Value.ref 138) _ _) _ _ _); k_dflt (refine' repl_use ?C ?F ?X ?T ?N ?R ?hl ?hs ?hp ?hv ?hu ?_; (case F => k_asm); (case X => k_asm); (case T => k_asm); (case N => k_asm); (case hv => first | exact Tv.at (by assumption) (by k_asm) (by k_asm) (by k_all) | exact Tv.at0 (by k_asm) (by assumption)); (case hu => first | exact Tv.at0 (by k_asm) (by assumption) | exact Tv.at (by assumption) (by k_asm) (by k_asm) (by k_all)); (case hp => exact PathV.of (Fr.tupP (by assumption) (by k_asm) (by k_asm) (by k_all)) (by assumption)); (case C => assumption); (case R => exact Rm.deeper (by assumption)); (case hl => omega); (case hs => assumption); k_whole); intro v' h' tk' tl' F' N' hA' hd'; (try simp only [List.cons_append, List.nil_append] at N'))))
  trivial
section
variable {prog : Program} {w : World} {p : Program} {loose : List Str} {mean : ExcName → Option Value} {mg mb : Str → Option Value}
set_option maxHeartbeats 4000000 in
theorem repl_nil : ReplC prog w p loose mean mg mb [] := by
  intro A s v pv vu t x u E Q X T R hl hs hpv hv hu h
  obtain ⟨hA, dA, fA, gA, uA⟩ := A
  obtain rfl : hA = none := R.hh
  obtain ⟨ap, vs, rfl, hpt, hpi⟩ := hpv
  cases hpi
  refine wpAny_call ?_
  k_dflt (refine' enter0 (binds := [(Str.ofString "t", v), (Str.ofString "path", .ref ap), (Str.ofString "u", vu)]) X T ?ho ?hcd (Rm.room R) ?hb ?hl ?_ ?c1 ?c2 ?c3 ?c4)
  case ho => k_dflt k_is
  case hcd => k_dflt k_is
  case hb => exact BindsTo.of_eq rfl
  case hl => exact locs rfl
  case c1 => rfl
  case c2 => rfl
  case c3 => rfl
  case c4 => decide
  intro L h₁ tk1 F N
  refine (?_ : let mM' := _; let aA' := _; wpAny mM' aA' _ _ _ _); intro mM' aA'
  k_fold
  k_steps
  rename Fr _ _ _ _ => F9
  rw [rep_nil] at h
  exact h _ _ _ (Fr.keep F9) (Tv.at0 F9 hu)
set_option maxHeartbeats 4000000 in
theorem repl_cons {i : Int} {ns : List Int} (ih : ReplC prog w p loose mean mg mb ns) : ReplC prog w p loose mean mg mb (i :: ns) := by
  intro A s v pv vu t x u E Q X T R hl hs hpv hv hu h
  obtain ⟨hA, dA, fA, gA, uA⟩ := A
  obtain rfl : hA = none := R.hh
  obtain ⟨ap, vs, rfl, hpt, hpi⟩ := hpv
  cases hpi with
  | @cons _ tki r _ hpi =>
    have R' : Rm _ (ns.length + 2 + 1) := R
    have hl' : ns.length + 1 ≤ 10 := hl
    have hl2 : r.length ≤ 1000 := by rw [hpi.length]; omega
    cases t with
    | leaf y => simp [sub] at hs
    | un t1 =>
      simp only [sub] at hs
      split at hs
      · rename_i hi0
        subst hi0
        obtain ⟨a, kx, v2, rfl, hx, hu1⟩ := Tm.un_inv hv
        have hq : sub (.un t1) [0] = some t1 := by simp [sub]
        refine wpAny_call ?_
        k_dflt (refine' enter0 (binds := [(Str.ofString "t", .ref a), (Str.ofString "path", .ref ap), (Str.ofString "u", vu)]) X T ?ho ?hcd (Rm.room R) ?hb ?hl ?_ ?c1 ?c2 ?c3 ?c4)
        case ho => k_dflt k_is
        case hcd => k_dflt k_is
        case hb => exact BindsTo.of_eq rfl
        case hl => exact locs rfl
        case c1 => rfl
        case c2 => rfl
        case c3 => rfl
        case c4 => decide
        intro L h₁ tk1 F N
        refine (?_ : let mM' := _; let aA' := _; wpAny mM' aA' _ _ _ _); intro mM' aA'
        k_fold
        k_steps
        rename Fr _ _ _ _ => F9
        rename News _ _ _ _ => N9
        refine h _ _ _ (Fr.keep F9) ?_
        exact .two (Fr.tupP (by assumption) F9 N9 (by k_all)) (.str _ _) (Tv.at (by assumption) F9 N9 (by k_all))
      · cases hs
    | bin t1 t2 =>
      obtain ⟨a, kx, v2, v3, rfl, hx, hu1, hu2⟩ := Tm.bin_inv hv
      simp only [sub] at hs
      split at hs
      · rename_i hi0
        subst hi0
        have hq : sub (.bin t1 t2) [0] = some t1 := by simp [sub]
        refine wpAny_call ?_
        k_dflt (refine' enter0 (binds := [(Str.ofString "t", .ref a), (Str.ofString "path", .ref ap), (Str.ofString "u", vu)]) X T ?ho ?hcd (Rm.room R) ?hb ?hl ?_ ?c1 ?c2 ?c3 ?c4)
        case ho => k_dflt k_is
        case hcd => k_dflt k_is
        case hb => exact BindsTo.of_eq rfl
        case hl => exact locs rfl
        case c1 => rfl
        case c2 => rfl
        case c3 => rfl
        case c4 => decide
        intro L h₁ tk1 F N
        refine (?_ : let mM' := _; let aA' := _; wpAny mM' aA' _ _ _ _); intro mM' aA'
        k_fold
        k_steps
        rename Fr _ _ _ _ => F9
        rename News _ _ _ _ => N9
        refine h _ _ _ (Fr.keep F9) ?_
        exact .three (Fr.tupP (by assumption) F9 N9 (by k_all)) (.str _ _) (Tv.at (by assumption) F9 N9 (by k_all)) (Tv.at0 F9 hu2)
      · split at hs
        · rename_i hi0 hi1
          subst hi1
          have hq : sub (.bin t1 t2) [1] = some t2 := by simp [sub]
          refine wpAny_call ?_
          k_dflt (refine' enter0 (binds := [(Str.ofString "t", .ref a), (Str.ofString "path", .ref ap), (Str.ofString "u", vu)]) X T ?ho ?hcd (Rm.room R) ?hb ?hl ?_ ?c1 ?c2 ?c3 ?c4)
          case ho => k_dflt k_is
          case hcd => k_dflt k_is
          case hb => exact BindsTo.of_eq rfl
          case hl => exact locs rfl
          case c1 => rfl
          case c2 => rfl
          case c3 => rfl
          case c4 => decide
          intro L h₁ tk1 F N
          refine (?_ : let mM' := _; let aA' := _; wpAny mM' aA' _ _ _ _); intro mM' aA'
          k_fold
          k_steps
          rename Fr _ _ _ _ => F9
          rename News _ _ _ _ => N9
          refine h _ _ _ (Fr.keep F9) ?_
          exact .three (Fr.tupP (by assumption) F9 N9 (by k_all)) (.str _ _) (Tv.at0 F9 hu1) (Tv.at (by assumption) F9 N9 (by k_all))
        · cases hs
theorem repl_all : ∀ ns, ReplC prog w p loose mean mg mb ns
  | [] => repl_nil
  | _ :: ns => repl_cons (repl_all ns)
end
end
/-! Sets -/
section
set_option maxRecDepth 100000
/-! a set of strs, made of a list -/
section
variable {prog : Program} {w : World} {A : Around} {E : Value → Shared → Prop} {s : Shared}
/-- an exact set of strs, in the order in which they stand -/
def SetS (prog : Program) (w : World) (h : Heap) (a : Addr) (xs : List Str) : Prop :=
  ∃ o es ep t, h.get? a = some o ∧ o.ExactSet ∧ o.data = .set es ep t ∧ ElemsOf (strKind prog w) es.toList ∧ StrsAre (es.toList.map (·.2)) xs ∧ t.fits es.size = true ∧ (es.size = 0 ∨ t.plain = false)
theorem StrsAre.len {vs : List Value} {ss : List Str} (h : StrsAre vs ss) : vs.length = ss.length := by
  induction h with
  | nil => rfl
  | cons _ _ _ ih => simp [ih]
theorem StrsAre.app {vs ws : List Value} {xs ys : List Str} (h : StrsAre vs xs) (k : StrsAre ws ys) : StrsAre (vs ++ ws) (xs ++ ys) := by
  induction h with
  | nil => exact k
  | cons a b _ ih => exact .cons a b ih
theorem strs_perm {vs ws : List Value} {ss : List Str} (p : List.Perm vs ws) (h : StrsAre ws ss) : ∃ ss', StrsAre vs ss' ∧ ss'.Perm ss := by
  refine ⟨vs.map strOf, strsAre_map vs (fun v hv => h.all v (p.mem_iff.mp hv)), ?_⟩
  have := h.strs
  subst this
  exact p.map _
theorem layNew_plain (t : SetTable) (es : Array (Int × Value)) (h : Int) (x : Value) (ht : t.plain = false) : (layNew t es h x).2.1.plain = false := by
  unfold layNew
  split
  · dsimp only
    unfold SetTable.orStandIn
    split
    · simpa [SetTable.put] using ht
    · rfl
  · rfl
theorem relayAll_plain (t : SetTable) (es : Array (Int × Value)) (n : Nat) (ht : t.plain = false) : (relayAll t es n).2.1.plain = false := by
  unfold relayAll
  split
  · rename_i t' order e
    dsimp only
    split
    · unfold SetTable.relaid SetTable.laid at e
      cases q : SetTable.layClean (SetTable.sizeAbove n - 1) (es.map (·.1)) with
      | none => rw [q] at e; simp at e
      | some ow =>
        rw [q] at e
        simp at e
        rw [← e.1]
        exact ht
    · rfl
  · rfl
theorem SetS.size {h : Heap} {a : Addr} {xs : List Str} {o : Obj} {es : Array (Int × Value)} {ep : Nat} {t : SetTable} (hx : StrsAre (es.toList.map (·.2)) xs) : es.size = xs.length := by
  have := StrsAre.len hx
  rw [List.length_map, Array.length_toList] at this
  exact this
/-- a set stored anew -/
theorem setS_store {h : Heap} {a : Addr} {o : Obj} {es : Array (Int × Value)} {ep : Nat} {t : SetTable} (ho : h.get? a = some o) (hex : o.ExactSet) (hd : o.data = .set es ep t)
    {es' : Array (Int × Value)} {t' : SetTable} {xs : List Str} (hel : ElemsOf (strKind prog w) es'.toList) (hx : StrsAre (es'.toList.map (·.2)) xs) (hf : t'.fits es'.size = true) (hp : t'.plain = false) :
    (h.update a (Obj.putSet es' t')).get? a = some { o with data := .set es' (ep + 1) t' } ∧ SetS prog w (h.update a (Obj.putSet es' t')) a xs := by
  have hg : (h.update a (Obj.putSet es' t')).get? a = some { o with data := .set es' (ep + 1) t' } := by
    have := Heap.get?_update_self (Obj.putSet es' t') ho (by rw [putSet_of es' t' hd]; rfl)
    rw [putSet_of es' t' hd] at this; exact this
  exact ⟨hg, _, es', ep + 1, t', hg, hex, rfl, hel, hx, hf, .inr hp⟩
theorem add_str {a : Addr} {x : Str} {u : Tok} {xs : List Str} {Q : Bool → Shared → Prop} (hS : SetS prog w s.heap a xs) (hx : x ∉ xs) (hroom : xs.length + 1 < scanBound)
    (h : ∀ h' xs', Heap.SameBut a s.heap h' → SetS prog w h' a xs' → xs'.Perm (xs ++ [x]) → Q true { s with heap := h' }) :
    wpAny (model prog w) A (setAddHashed a (.str x u) ((strKind prog w).hash x)) Q E s := by
  obtain ⟨o, es, ep, t, ho, hex, hd, hel, hxs, hf, hpl⟩ := hS
  have hsz : es.size = xs.length := by
    have := StrsAre.len hxs
    rw [List.length_map, Array.length_toList] at this
    exact this
  have hkey : (strKind prog w).is x (.str x u) = true := strKind_is _ _ _ _
  have hb : es.size < scanBound := by omega
  unfold setAddHashed setAddHashedIn
  refine wpAny_holding (wpAny_bind (wpAny_setState_of ho hd hf ?_))
  dsimp only
  rw [byScan_of (knd := strKind prog w) rfl hb hel]
  simp only [↓reduceIte]
  unfold setAddByScan
  refine wpAny_bind ?_
  refine wpAny_bind (wpAny_rule ?_)
  refine wpAny_bind (wpAny_setScan_of hkey ho hd hf hel ?_)
  have hnone : List.findIdx? (fun e => (strKind prog w).is x e.2) es.toList = none := by
    rw [List.findIdx?_eq_none_iff]
    intro e he
    cases hq : (strKind prog w).is x e.2 with
    | false => rfl
    | true =>
      exfalso
      obtain ⟨y, t', ey⟩ := hxs.all e.2 (List.mem_map.mpr ⟨e, he, rfl⟩)
      have hy : (strKind prog w).is y e.2 = true := by rw [ey]; exact strKind_is _ _ _ _
      have : x = y := (strKind prog w).inj _ _ _ hq hy
      subst this
      refine hx ?_
      have := hxs.strs
      rw [← this]
      refine List.mem_map.mpr ⟨e.2, List.mem_map.mpr ⟨e, he, rfl⟩, ?_⟩
      rw [ey]; rfl
  rw [hnone]
  dsimp only
  have hgw : ∀ (b : Bool) {s₁ : Shared} {Q' : Unit → Shared → Prop}, Q' () s₁ → wpAny (model prog w) A (match b with | true => rule "set.scan.the-table-gave-way" | false => pure ()) Q' E s₁ :=
    fun b s₁ Q' hq => by cases b <;> first | exact wpAny_pure hq | exact wpAny_rule hq
  have hperm := layNew_perm t es ((strKind prog w).hash x) (.str x u)
  have hfits := layNew_fits t es ((strKind prog w).hash x) (.str x u)
  have hplain := layNew_plain t es ((strKind prog w).hash x) (.str x u)
  generalize hL : layNew t es ((strKind prog w).hash x) (.str x u) = L1 at hperm hfits hplain ⊢
  obtain ⟨es1, t1, wasDummy, gave⟩ := L1
  dsimp only at hperm hfits hplain ⊢
  rw [Array.toList_push] at hperm
  have hel1 : ElemsOf (strKind prog w) es1.toList := (hel.push hkey rfl).perm hperm
  have hsz1 : es1.size = es.size + 1 := by rw [← Array.length_toList, hperm.length_eq, List.length_append, Array.length_toList]; rfl
  have hb1 : es1.size < scanBound := by omega
  have hx1 : StrsAre ((es.toList ++ [((strKind prog w).hash x, Value.str x u)]).map (·.2)) (xs ++ [x]) := by
    rw [List.map_append]
    exact StrsAre.app hxs (.cons _ _ .nil)
  obtain ⟨xs1, hxs1, hp1⟩ := strs_perm (hperm.map (·.2)) hx1
  refine wpAny_bind (hgw _ ?_)
  have tail : ∀ (t2 : SetTable), t2.fits es1.size = true → t2.plain = false →
      wpAny (model prog w) A (do
        storeSet a es1 t2
        if (!wasDummy && t2.tooFull) = true then do
            (fun (b : Bool) => (match b with | true => rule "set.scan.the-table-gave-way" | false => pure () : Sem Unit)) (relayAll t2 es1 (SetTable.grown es1.size)).2.2
            storeSet a (relayAll t2 es1 (SetTable.grown es1.size)).1 (relayAll t2 es1 (SetTable.grown es1.size)).2.1
            pure (some true)
          else pure (some true)) (fun r s' => r = some true ∧ Q true s') E s := by
    intro t2 hf2 hp2
    refine wpAny_bind (wpAny_storeSet_of ho hd ?_ (fits_of_scanBound hb1))
    obtain ⟨ho1, hS1⟩ := setS_store (prog := prog) (w := w) ho hex hd hel1 hxs1 hf2 hp2
    have hsb1 := Heap.SameBut.update s.heap a (Obj.putSet es1 t2)
    split
    · have hp := relayAll_perm t2 es1 (SetTable.grown es1.size)
      have hfr := relayAll_fits t2 es1 (SetTable.grown es1.size)
      have hpl2 := relayAll_plain t2 es1 (SetTable.grown es1.size) hp2
      generalize hRl : relayAll t2 es1 (SetTable.grown es1.size) = Rl at hp hfr hpl2 ⊢
      obtain ⟨es2, t3, gave2⟩ := Rl
      dsimp only at hp hfr hpl2 ⊢
      have hel2 : ElemsOf (strKind prog w) es2.toList := hel1.perm hp
      have hsz2 : es2.size = es1.size := by rw [← Array.length_toList, hp.length_eq, Array.length_toList]
      obtain ⟨xs2, hxs2, hp3⟩ := strs_perm (hp.map (·.2)) hxs1
      refine wpAny_bind (hgw _ ?_)
      refine wpAny_bind (wpAny_storeSet_of ho1 rfl ?_ (fits_of_scanBound (by omega)))
      obtain ⟨_, hS2⟩ := setS_store (prog := prog) (w := w) ho1 hex rfl hel2 hxs2 hfr hpl2
      exact wpAny_pure ⟨rfl, h _ xs2 (hsb1.trans (Heap.SameBut.update _ a _)) hS2 (hp3.trans hp1)⟩
    · exact wpAny_pure ⟨rfl, h _ xs1 hsb1 hS1 hp1⟩
  cases hp1' : t1.plain with
  | true =>
    rw [if_pos rfl]
    refine wpAny_bind ?_
    rw [hashByValue_scannable 8 (by rfl)]
    refine wpAny_pure ?_
    exact wpAny_mono (tail { t1 with plain := false } (SetTable.fits_plain_off hfits) rfl) (fun r s' hr => by obtain ⟨rfl, hq⟩ := hr; exact wpAny_pure hq) fun _ _ e => e
  | false =>
    rw [if_neg Bool.false_ne_true]
    refine wpAny_bind (wpAny_pure ?_)
    simp only [↓reduceIte]
    exact wpAny_mono (tail t1 hfits hp1') (fun r s' hr => by obtain ⟨rfl, hq⟩ := hr; exact wpAny_pure hq) fun _ _ e => e
end
section
variable {prog : Program} {w : World} {A : Around} {R : Result → Shared → Prop} {I : Addr} {fp wr : List Addr} {G : Array GenState → Array GenState → Prop} {n : Nat} {P : Nat → Value → Prop} {St : Nat → Shared → Prop}
/-- a set that holds these strs, in some order -/
def SetP (prog : Program) (w : World) (h : Heap) (a : Addr) (ys : List Str) : Prop := ∃ xs, SetS prog w h a xs ∧ xs.Perm ys
theorem set_loop (W : WalksS prog w A.in1 I fp wr G n P St) (S : Addr) (hSf : S ∉ fp)
    (val : Nat → Str) (hval : ∀ i v, P i v → ∃ t, v = .str (val i) t) (hd : ∀ i j, i < j → j < n → val i ≠ val j) (hb : n + 1 < scanBound) :
    ∀ (k i : Nat) (s : Shared), n - i = k → i ≤ n → St i s → SetP prog w s.heap S ((List.range i).map val) →
      (∀ s', Moved (S :: wr) G s s' → SetP prog w s'.heap S ((List.range n).map val) → R (.ok (.ret .none)) s') →
      codeAny (model prog w) A (.builtin "set.update.loop" ⟨[.ref S, .ref I], []⟩) R s := by
  have hSw : S ∉ wr := fun h => hSf (W.sub _ h)
  have hsub : ∀ b ∈ wr, b ∈ S :: wr := fun b hb => List.mem_cons_of_mem _ hb
  have mv : ∀ {h h' : Heap} {ys : List Str}, (∀ o, h.get? S = some o → h'.get? S = some o) → SetP prog w h S ys → SetP prog w h' S ys := fun k ⟨xs, ⟨o, es, ep, t, ho, r⟩, p⟩ => ⟨xs, ⟨o, es, ep, t, k _ ho, r⟩, p⟩
  intro k
  induction k with
  | zero =>
    intro i s hk hi hst hS hR
    have hin : i = n := by omega
    subst hin
    refine codeAny_builtin PyProof.Rows.F.entry_set_update_loop ?_
    rw [Around.under_plainId PyProof.Rows.F.plain_set_update_loop _]
    show wpAny _ A.in1 (pyNext (.ref I) >>= _) _ _ s
    refine wpAny_bind (W.done s _ _ hst fun s' hm => ?_)
    show wpAny _ A.in1 (ret Value.none) _ _ s'
    exact wpAny_pure (hR s' (hm.mono hsub) (mv (fun o ho => hm.heap S o hSw ho) hS))
  | succ k ih =>
    intro i s hk hi hst hS hR
    have hlt : i < n := by omega
    refine codeAny_builtin PyProof.Rows.F.entry_set_update_loop ?_
    rw [Around.under_plainId PyProof.Rows.F.plain_set_update_loop _]
    show wpAny _ A.in1 (pyNext (.ref I) >>= _) _ _ s
    refine wpAny_bind (W.item i s _ _ hlt hst fun v s' hP hst' hm => ?_)
    obtain ⟨t, rfl⟩ := hval i v hP
    obtain ⟨xs, hS', hp⟩ := mv (fun o ho => hm.heap S o hSw ho) hS
    show wpAny _ A.in1 (holding [Value.str (val i) t] (setAdd S (.str (val i) t)) >>= _) _ _ s'
    refine wpAny_bind (wpAny_holding ?_)
    unfold setAdd
    refine wpAny_holding ?_
    refine wpAny_bind ((strKind prog w).pyHash (k := val i) (strKind_is _ _ _ _) ?_)
    have hlen : xs.length = i := by rw [hp.length_eq, List.length_map, List.length_range]
    refine add_str (s := { s' with toks := s'.toks + 1 }) hS' (fun hm' => ?_) (by omega) fun h' xs' hsb hS2 hp2 => ?_
    · obtain ⟨j, hj, e⟩ := List.mem_map.mp (hp.mem_iff.mp hm')
      exact hd j i (List.mem_range.mp hj) hlt e
    have hSi : SetP prog w h' S ((List.range (i + 1)).map val) := ⟨xs', hS2, by
      rw [List.range_succ, List.map_append]
      exact hp2.trans (hp.append_right _)⟩
    refine wpAny_pure ⟨plainId_quiet PyProof.Rows.F.plain_set_update_loop _, ih (i + 1) _ (by omega) hlt (W.frame _ s' _ _ hst' (Nat.le_succ _) fun b hb o e => ?_) hSi fun s'' hm'' hS'' => ?_⟩
    · rw [hsb.2 b (fun h : b = S => hSf (by rw [← h]; exact hb))]; exact e
    · refine hR s'' (Moved.trans W.gtrans ((hm.mono hsub).then_heap (Nat.le_succ _) fun b o hb e => ?_) hm'') hS''
      rw [hsb.2 b (fun h : b = S => hb (by rw [h]; exact List.mem_cons_self))]; exact e
end
section
variable {prog : Program} {w : World} {A : Around} {E : Value → Shared → Prop} {s : Shared}
theorem StrsAre.at {vs : List Value} {ss : List Str} (h : StrsAre vs ss) : ∀ (i : Nat) (v : Value), vs[i]? = some v → ∃ t, v = .str (ss.getD i default) t := by
  induction h with
  | nil => intro i v h; simp at h
  | cons x t _ ih =>
    intro i v h
    cases i with
    | zero => simp at h; exact ⟨t, by rw [← h]; rfl⟩
    | succ i =>
      simp only [List.getElem?_cons_succ] at h
      obtain ⟨t', e⟩ := ih i v h
      exact ⟨t', by rw [e]; rfl⟩
set_option maxHeartbeats 3200000 in
theorem call_set_strs {l : Addr} {vs : List Value} {ss : List Str} {Q : Value → Shared → Prop}
    (hh : A.handled = none) (hl : s.heap.IsList l vs.toArray) (hi : StrsAre vs ss) (hn : ss.Nodup) (hb : vs.length + 1 < scanBound)
    (h : ∀ (h' : Heap) (tk : Nat), SetP prog w h' s.heap.objs.size ss →
      (∀ b o, b < s.heap.objs.size → s.heap.get? b = some o → h'.get? b = some o) → Q (.ref s.heap.objs.size) { s with heap := h', toks := tk }) :
    wpAny (model prog w) A (call (.type "set") [.ref l]) Q E s := by
  have hls := StrsAre.len hi
  have hsize : vs.toArray.size = vs.length := List.size_toArray
  have hrange : (List.range vs.length).map (fun i => ss.getD i default) = ss := by
    rw [hls]
    apply List.ext_getElem
    · simp
    · intro i h1 h2
      simp at h1
      simp [h1]
  have hdist : ∀ i j, i < j → j < vs.length → ss.getD i default ≠ ss.getD j default := fun i j hij hj e => by
    have hi' : i < ss.length := by omega
    have hj' : j < ss.length := by omega
    simp only [List.getD_eq_getElem?_getD, List.getElem?_eq_getElem hi', List.getElem?_eq_getElem hj', Option.getD_some] at e
    exact List.pairwise_iff_getElem.mp hn i j hi' hj' hij e
  obtain ⟨c, tl, hmro⟩ := PySem.F.called_set.mro
  have hmade := PySem.F.called_set.made
  have hsub := PySem.F.called_set.sub
  refine wpAny_call (codeAny_of_tree ?_)
  show wpAny _ _ (callAny (.type "set") _) _ _ _
  refine wpAny_pure ⟨Code.quiet_builtin _ (by decide +kernel), codeAny_builtin PySem.F.entry_type_call ?_⟩
  rw [Around.under_plain (weight_type_call_type "set" [.ref l] []) rfl]
  have h1 := PySem.F.called_set.notType
  have h2 := PySem.F.called_set.canCreate
  have hct := PySem.F.typeCall_set_1 (.ref l)
  repeat (any_goals (first | assumption | wp_step))
  refine codeAny_mono (code_set_new_1 (.ref l) (E := E) (Q₁ := fun obj s₁ => ∃ led : Bool, obj = .ref s.heap.objs.size ∧ s₁ = { s with heap := s.heap.push { cls := .type "set", dict := none, data := .set #[] 0 (.fresh 0 0 led) } }) fun led => ⟨led, rfl, rfl⟩) fun r s₁ hr => ?_
  cases r with
  | error e => exact hr
  | ok fl =>
    cases fl with
    | ret obj =>
      obtain ⟨led, rfl, rfl⟩ := hr
      have hS : (s.heap.push { cls := .type "set", dict := none, data := .set #[] 0 (.fresh 0 0 led) }).get? s.heap.objs.size = some { cls := .type "set", dict := none, data := .set #[] 0 (.fresh 0 0 led) } := Heap.get?_push_size _ rfl
      have hT : Shared.TypeIs { s with heap := s.heap.push { cls := .type "set", dict := none, data := .set #[] 0 (.fresh 0 0 led) } } (.ref s.heap.objs.size) "set" := ⟨_, hS, rfl⟩
      have hli := PySem.F.called_set.init.lookup
      have hbi := PySem.F.called_set.init.bind (.ref s.heap.objs.size)
      repeat (any_goals (first | assumption | wp_step))
      refine codeAny_mono (codeAny_call_builtin (R := wants (fun r s₂ => r = .none ∧ ∃ h' tk, s₂ = { s with heap := h', toks := tk } ∧
          SetP prog w h' s.heap.objs.size ss ∧
          (∀ b o, b < s.heap.objs.size → s.heap.get? b = some o → h'.get? b = some o)) E) PySem.F.called_set.init.plain PySem.F.entry_set_init (check_set_init_1 hT ?_)) fun r₂ s₂ hr₂ => ?_
      · obtain ⟨ol, hol, hcl, nl, hdl⟩ := hl
        obtain ⟨ocls, odict, odata, oslots⟩ := ol
        simp only at hcl hdl
        subst hcl; subst hdl
        have hol' : (s.heap.push { cls := .type "set", dict := none, data := .set #[] 0 (.fresh 0 0 led) }).get? l = some { cls := .type "list", dict := odict, data := .seq vs.toArray nl, slots := oslots } := Heap.get?_push_of_some _ hol
        have hsls := PySem.F.sub_list_set
        have hslf := PySem.F.sub_list_frozenset
        have hne : (Value.type "list" == Value.type "dict") = false := by decide
        have hl1 : (s.heap.push { cls := .type "set", dict := none, data := .set #[] 0 (.fresh 0 0 led) }).IsList l vs.toArray := ⟨_, hol', rfl, nl, rfl⟩
        unfold Builtin.«set.__init__» noKeywords Builtin.Frozenset.updateFrom
        generalize hPI : pyIter = PI
        wp_walk
        subst hPI
        refine wpAny_pyIter_list hl1 ?_
        refine wpAny_bind (wpAny_runValue ?_)
        have hlS : l < s.heap.objs.size := Heap.lt_size hol
        have hh3 : A.in1.in1.in1.handled = none := by simp [hh]
        have hneI : l ≠ (s.heap.push { cls := .type "set", dict := none, data := .set #[] 0 (.fresh 0 0 led) }).objs.size := by
          rw [Heap.size_push]; exact Nat.ne_of_lt (Nat.lt_succ_of_lt hlS)
        have hSf : s.heap.objs.size ∉ [(s.heap.push { cls := .type "set", dict := none, data := .set #[] 0 (.fresh 0 0 led) }).objs.size, l] := by
          rw [Heap.size_push]; simp only [List.mem_cons, List.mem_singleton, List.not_mem_nil, or_false, not_or]
          exact ⟨Nat.ne_of_lt (Nat.lt_succ_self _), Nat.ne_of_gt hlS⟩
        have hval : ∀ (i : Nat) (v : Value), vs.toArray[i]? = some v → ∃ t, v = .str ((fun i => ss.getD i default) i) t := fun i v hv => StrsAre.at hi i v (by simpa using hv)
        refine set_loop ((Walks.list hh3 _ l hneI vs.toArray).toS) s.heap.objs.size
          hSf (fun i => ss.getD i default) hval (fun i j hij hj => hdist i j hij (by rw [← hsize]; exact hj)) (by rw [hsize]; exact hb) (vs.toArray.size - 0) 0 _ (by omega) (Nat.zero_le _)
          ⟨⟨_, Heap.get?_push_size _ rfl, rfl, rfl⟩, (hl1.push _)⟩ ?hS0 ?hR
        case hS0 =>
          have hget : ((s.heap.push { cls := .type "set", dict := none, data := .set #[] 0 (.fresh 0 0 led) }).push { cls := .type "list_iterator", data := .fields #[.ref l, .int 0 0] }).get? s.heap.objs.size
              = some { cls := .type "set", dict := none, data := .set #[] 0 (.fresh 0 0 led) } := Heap.get?_push_of_some _ hS
          exact ⟨[], ⟨_, #[], 0, _, hget, ⟨rfl, rfl, rfl⟩, rfl, fun e he => by simp at he, .nil, rfl, .inl rfl⟩, List.Perm.refl _⟩
        case hR =>
          intro s' hm hS'
          obtain ⟨h', g', d', tk', os'⟩ := s'
          have eg : g' = s.gens := hm.gens
          have ed : d' = s.drawn := hm.drawn
          have eo : os' = s.os := hm.os
          subst eg; subst ed; subst eo
          show wpAny _ _ _ _ _ _
          refine wpAny_pure ?_
          show wpAny _ _ (ret Value.none) _ _ _
          refine wpAny_pure ⟨rfl, h', tk', rfl, by rw [hsize, hrange] at hS'; exact hS', fun b o hb e => ?_⟩
          have hb1 : b ≠ s.heap.objs.size := Nat.ne_of_lt hb
          have hb2 : b ≠ (s.heap.push { cls := .type "set", dict := none, data := .set #[] 0 (.fresh 0 0 led) }).objs.size := by
            rw [Heap.size_push]; exact Nat.ne_of_lt (Nat.lt_succ_of_lt hb)
          exact hm.heap b o (by simp only [List.mem_cons, List.mem_singleton, List.not_mem_nil, or_false, not_or]; exact ⟨hb1, hb2⟩) (Heap.get?_push_of_some _ (Heap.get?_push_of_some _ e))
      · cases r₂ with
        | error e => exact hr₂
        | ok fl₂ =>
          cases fl₂ with
          | ret r =>
            obtain ⟨rfl, h', tk, rfl, hS', hk'⟩ := hr₂
            repeat (any_goals (first | assumption | wp_step))
            exact h _ _ hS' hk'
          | next => exact hr₂.elim
          | brk => exact hr₂.elim
          | cont => exact hr₂.elim
    | next => exact hr.elim
    | brk => exact hr.elim
    | cont => exact hr.elim
end
end
/-! SetIt -/
section
set_option maxRecDepth 100000
section
variable {prog : Program} {w : World} {A : Around} {E : Value → Shared → Prop} {s : Shared}
theorem erase_perm {α : Type} : ∀ (xs : List α) (i : Nat) (hi : i < xs.length), List.Perm (xs[i] :: xs.eraseIdx i) xs
  | x :: r, 0, _ => List.Perm.refl _
  | x :: r, i + 1, hi => by
    simp only [List.getElem_cons_succ, List.eraseIdx_cons_succ]
    exact (List.Perm.swap _ _ _).trans ((erase_perm r i (by simpa using hi)).cons _)
theorem wp_choose_ {M : Model} {src : Source} {n : Nat} {Q : Nat → Shared → Prop} (hn : n ≠ 0) (h : ∀ i d, i < n → Q i { s with drawn := d }) : wpAny M A (choose src n) Q E s := fun Γ p _ => by
  unfold choose
  rw [Sem.wp_choose]
  exact ⟨hn, h _ _ (Nat.mod_lt _ (Nat.pos_of_ne_zero hn))⟩
theorem draw_perm {M : Model} {α : Type} : ∀ (xs : List α) {s : Shared} {Q : List α → Shared → Prop}, (∀ ys d, List.Perm ys xs → Q ys { s with drawn := d }) → wpAny M A (drawOrder xs.length xs) Q E s := by
  intro xs
  generalize hn : xs.length = n
  induction n generalizing xs with
  | zero =>
    intro s Q h
    have : xs = [] := List.length_eq_zero_iff.mp hn
    subst this
    exact wpAny_pure (h [] s.drawn (List.Perm.refl _))
  | succ n ih =>
    intro s Q h
    cases xs with
    | nil => cases hn
    | cons x r =>
      show wpAny _ _ (choose .order (x :: r).length >>= _) _ _ _
      refine wpAny_bind (wp_choose_ (by simp) fun i d hi => ?_)
      have e : (x :: r)[i]? = some (x :: r)[i] := List.getElem?_eq_getElem hi
      simp only [e]
      refine wpAny_bind (ih ((x :: r).eraseIdx i) (by rw [List.length_eraseIdx]; simp at hn hi ⊢; split <;> omega) fun ys d' hp => ?_)
      refine wpAny_pure (h _ d' ?_)
      exact (hp.cons _).trans (erase_perm _ i hi)
theorem draw_perm' {M : Model} {α : Type} {xs : List α} {n : Nat} (hn : xs.length = n) {s : Shared} {Q : List α → Shared → Prop} (h : ∀ ys d, List.Perm ys xs → Q ys { s with drawn := d }) : wpAny M A (drawOrder n xs) Q E s := by subst hn; exact draw_perm xs h
theorem slot_si : Slot "set_iterator" "__next__" "set_iterator.__next__" :=
  .of (owner := "set_iterator") (n := "__next__") (by rw [typeLookup_type, builtinLookup_eq_fast]; kernel_rfl) (by decide +kernel) (by decide +kernel) (by decide +kernel)
    (by first | exact .inl (by decide +kernel) | exact .inr (by decide +kernel)) (by rw [isSubtype_type]; kernel_rfl)
theorem entry_si : entryFor table "set_iterator.__next__" = some Builtin.«set_iterator.__next__» := entryFor_of_tree (by kernel_rfl)
theorem args_si (a : Value) : argsOk "set_iterator.__next__" ⟨[a], []⟩ := by unfold argsOk; kernel_rfl
theorem entry_seti : entryFor table "set.__iter__" = some Builtin.«frozenset.__iter__» :=
  entryFor_alias (id' := "frozenset.__iter__") (by kernel_rfl) rfl (by decide +kernel) (by kernel_rfl)
theorem slot_sii : Slot "set_iterator" "__iter__" "set_iterator.__iter__" :=
  .of (owner := "set_iterator") (n := "__iter__") (by rw [typeLookup_type, builtinLookup_eq_fast]; kernel_rfl) (by decide +kernel) (by decide +kernel) (by decide +kernel)
    (by first | exact .inl (by decide +kernel) | exact .inr (by decide +kernel)) (by rw [isSubtype_type]; kernel_rfl)
theorem pick_perm {α : Type} (f : Nat → Nat) : ∀ (xs : List α) (k : Nat) (out : Array α), List.Perm (pickOrder.go f xs.length k xs out).toList (out.toList ++ xs) := by
  intro xs
  generalize hn : xs.length = n
  induction n generalizing xs with
  | zero =>
    intro k out
    have : xs = [] := List.length_eq_zero_iff.mp hn
    subst this
    simp [pickOrder.go]
  | succ n ih =>
    intro k out
    have hi : f k % xs.length < xs.length := Nat.mod_lt _ (by omega)
    unfold pickOrder.go
    rw [List.getElem?_eq_getElem hi]
    dsimp only
    have h1 := ih (xs.eraseIdx (f k % xs.length)) (by rw [List.length_eraseIdx, if_pos hi]; omega) (k + 1) (out.push xs[f k % xs.length])
    refine h1.trans ?_
    rw [Array.toList_push, List.append_assoc]
    exact ((erase_perm xs _ hi).append_left _)

/-- a set's iterator -/
def SIt (h : Heap) (I a : Addr) (first : Value) (i n ep : Nat) : Prop := ∃ o, h.get? I = some o ∧ o.cls = .type "set_iterator" ∧ o.data = .fields #[first, .int i 0, .ref a, .int n 0, .int ep 0]
theorem SIt.typeIs {I a : Addr} {first : Value} {i n ep : Nat} (x : SIt s.heap I a first i n ep) : s.TypeIs (.ref I) "set_iterator" := let ⟨o, ho, hc, _⟩ := x; ⟨o, ho, hc⟩
def SetD (h : Heap) (a : Addr) (es : Array (Int × Value)) (ep : Nat) (t : SetTable) : Prop := ∃ o, h.get? a = some o ∧ o.data = .set es ep t ∧ t.fits es.size = true
/-- one step, the order drawn -/
theorem si_item_drawn {I a P : Addr} {i ep : Nat} {es : Array (Int × Value)} {t : SetTable} {pl : List Nat} {k : Nat} {v : Value} {Q : Option Value → Shared → Prop}
    (hit : SIt s.heap I a (.ref P) i es.size ep) (hs : SetD s.heap a es ep t) (hp : IsTup s.heap P (pl.map fun (i : Nat) => rawInt i).toArray) (hk : pl[i]? = some k) (hv : (es.toList.map (·.2))[k]? = some v)
    (hQ : ∀ h', SIt h' I a (.ref P) (i + 1) es.size ep → Heap.SameBut I s.heap h' → Q (some v) { s with heap := h' }) : wpAny (model prog w) A (pyNext (.ref I)) Q E s := by
  obtain ⟨o, ho, hc, hd⟩ := id hit
  obtain ⟨os, hos, hds, hf⟩ := hs
  obtain ⟨op, hop, hcp, np, hdp⟩ := hp
  unfold pyNext
  refine wpAny_bind (wpAny_attempt (wpAny_callSpecial?_slot (name := Str.ofString "__next__") hit.typeIs slot_si
    (wpAny_call_entry slot_si hit.typeIs entry_si ?_ (args_si _))))
  unfold Builtin.«set_iterator.__next__»
  refine wpAny_bind (m := slotArgs "__next__" 0 _) (wpAny_pure ?_)
  dsimp only
  refine wpAny_bind (wpAny_fieldsOf ho hd ?_)
  dsimp only
  refine wpAny_bind (wpAny_setEntries_of hos hds hf ?_)
  rw [if_neg (by simp)]
  refine wpAny_bind (wpAny_seqItems hop hdp ?_)
  have e1 : ((pl.map fun (i : Nat) => rawInt i).toArray)[((i : Nat) : Int).toNat]? = some (.int k 0) := by simp [hk, rawInt]
  dsimp only
  rw [e1]
  dsimp only
  obtain ⟨e, he, hev⟩ : ∃ e, es[k]? = some e ∧ e.2 = v := by
    rw [List.getElem?_map] at hv
    cases q : es.toList[k]? with
    | none => rw [q] at hv; cases hv
    | some e => rw [q] at hv; exact ⟨e, by simpa using q, by simpa using hv⟩
  unfold setNextDrawn
  refine wpAny_bind (wpAny_bind (wpAny_setState_of hos hds hf ?_))
  dsimp only
  rw [if_neg (by simp)]
  refine wpAny_bind (wpAny_pure ?_)
  simp only [Int.toNat_natCast, he]
  refine wpAny_pure ?_
  refine wpAny_bind (wpAny_setField ho hd (by simp) (wpAny_pure ⟨e.2, rfl, ?_⟩))
  rw [hev]
  refine wpAny_pure (hQ _ ⟨_, Heap.get?_update_self _ ho (Obj.isFreed_of_fields (Obj.data_mapFields hd _)), (Obj.cls_mapFields ..).trans hc, ?_⟩ (Heap.SameBut.update ..))
  rw [Obj.data_mapFields hd]; simp [rawInt]
theorem fam : firstArgMember (.type "StopIteration") [] = pure Value.none := by kernel_rfl
/-- the end: the exception that the caller looks for -/
theorem stop_here {I : Addr} {Q : Option Value → Shared → Prop} {h : Heap} (hh : A.handled = none) (hk : Heap.ExtBut I s.heap h)
    (hQ : ∀ h', Heap.ExtBut I s.heap h' → Q none { s with heap := h' }) :
    wpAny (model prog w) A.in1 (newExc (.type "StopIteration") [] >>= fun e => raiseNew e) (fun fin s' => ∃ v, fin = Fin.done (Flow.ret v) ∧ wpAny (model prog w) A (pure (some v)) Q E s') (fun e s' => wpAny (model prog w) A (do
      let __do_lift ← isInstance e (Value.type "StopIteration")
      if __do_lift = true then pure none else throw e) Q E s') { s with heap := h } := by
  refine wpAny_bind ?_
  simp only [newExc, newTuple]
  refine wpAny_bind (wpAny_newObj_type ?_ (by size_fits))
  refine wpAny_bind (m := firstArgMember (.type "StopIteration") []) ?_
  rw [fam]
  refine wpAny_pure ?_
  refine wpAny_newObj_type ?_ (by size_fits)
  simp only [raiseNew]
  refine wpAny_bind (wpAny_handled ?_)
  first | rw [show A.in1.handled = none from hh] | rw [hh]
  refine wpAny_bind (wpAny_pure (wpAny_throw ?_))
  refine wpAny_bind (wpAny_isInstance (T := "StopIteration") (b := true) ⟨_, Heap.get?_push_size _ rfl, rfl⟩ isSubtype_stop ?_)
  exact wpAny_pure (hQ _ ((hk.push _).push _))
set_option maxHeartbeats 2000000 in
theorem si_done_drawn {I a P : Addr} {i ep : Nat} {es : Array (Int × Value)} {t : SetTable} {pl : List Nat} {Q : Option Value → Shared → Prop} (hh : A.handled = none)
    (hit : SIt s.heap I a (.ref P) i es.size ep) (hs : SetD s.heap a es ep t) (hp : IsTup s.heap P (pl.map fun (i : Nat) => rawInt i).toArray) (hk : pl[i]? = none)
    (hQ : ∀ h', Heap.ExtBut I s.heap h' → Q none { s with heap := h' }) : wpAny (model prog w) A (pyNext (.ref I)) Q E s := by
  obtain ⟨o, ho, hc, hd⟩ := id hit
  obtain ⟨os, hos, hds, hf⟩ := hs
  obtain ⟨op, hop, hcp, np, hdp⟩ := hp
  unfold pyNext
  refine wpAny_bind (wpAny_attempt (wpAny_callSpecial?_slot (name := Str.ofString "__next__") hit.typeIs slot_si
    (wpAny_call_entry slot_si hit.typeIs entry_si ?_ (args_si _))))
  unfold Builtin.«set_iterator.__next__»
  refine wpAny_bind (m := slotArgs "__next__" 0 _) (wpAny_pure ?_)
  dsimp only
  refine wpAny_bind (wpAny_fieldsOf ho hd ?_)
  dsimp only
  refine wpAny_bind (wpAny_setEntries_of hos hds hf ?_)
  rw [if_neg (by simp)]
  refine wpAny_bind (wpAny_seqItems hop hdp ?_)
  have e1 : ((pl.map fun (i : Nat) => rawInt i).toArray)[((i : Nat) : Int).toNat]? = none := by simpa using hk
  dsimp only
  rw [e1]
  dsimp only
  refine wpAny_bind (wpAny_setField ho hd (by simp) ?_)
  have ho2 := Heap.get?_update_self (Obj.mapFields (·.setIfInBounds 0 (rawInt 0))) ho (Obj.isFreed_of_fields (Obj.data_mapFields hd _))
  refine wpAny_bind (wpAny_setField ho2 (Obj.data_mapFields hd _) (by simp) ?_)
  refine stop_here (s := s) (I := I) hh ?_ hQ
  exact ((Heap.SameBut.update ..).trans (Heap.SameBut.update ..)).extBut
theorem wp_ite_pos {α : Type} {M : Model} {c : Prop} [Decidable c] {x y : Sem α} {Q : α → Shared → Prop} (hc : c) (h : wpAny M A x Q E s) : wpAny M A (if c then x else y) Q E s := by rw [if_pos hc]; exact h
theorem wp_ite_neg {α : Type} {M : Model} {c : Prop} [Decidable c] {x y : Sem α} {Q : α → Shared → Prop} (hc : ¬ c) (h : wpAny M A y Q E s) : wpAny M A (if c then x else y) Q E s := by rw [if_neg hc]; exact h
def byText (w : World) : Bool := w.params.followText "set-order"
theorem wp_byText {M : Model} {Q : Bool → Shared → Prop} (h : Q (M.w.params.followText "set-order") s) : wpAny M A setsByText Q E s := by
  unfold setsByText
  exact wpAny_bind (wpAny_askSetting (wpAny_pure h))
/-- what the next step gives, where the order is the text's or nothing is left -/
theorem set_next_ {a : Addr} {es : Array (Int × Value)} {ep i : Nat} {t : SetTable} {Q : Option (Value × Nat) → Shared → Prop} (hs : SetD s.heap a es ep t) (hc : byText w = true ∨ es.size = 0)
    (h : Q (((pickOrder (w.params.setOrder a ep) es)[i]?).map fun e => (e.2, 0)) s) : wpAny (model prog w) A (setNext a 0 i ep) Q E s := by
  obtain ⟨os, hos, hds, hf⟩ := hs
  unfold setNext
  refine wpAny_bind (wpAny_setState_of hos hds hf ?_)
  dsimp only
  refine wpAny_bind (wp_byText ?_)
  cases hb : byText w with
  | true =>
    have hb' : (model prog w).w.params.followText "set-order" = true := hb
    rw [hb']
    rw [if_pos rfl]
    rw [if_neg (by simp)]
    unfold setWalk
    refine wpAny_bind (wpAny_bind (wpAny_setState_of hos hds hf ?_))
    dsimp only
    refine wpAny_bind (wp_byText ?_)
    rw [hb', if_pos rfl]
    refine wpAny_bind (wpAny_askSetting (wpAny_pure ?_))
    exact wpAny_pure h
  | false =>
    have hb' : (model prog w).w.params.followText "set-order" = false := hb
    have h0 : es.size = 0 := hc.resolve_left (by rw [hb]; exact Bool.false_ne_true)
    have he : es = #[] := Array.size_eq_zero_iff.mp h0
    subst he
    rw [hb']
    rw [if_neg Bool.false_ne_true]
    refine wp_ite_neg ?hc1 ?_
    case hc1 => exact (show ¬ ((!t.plain && decide ((#[] : Array (Int × Value)).size > 1)) = true) from by simp)
    refine wpAny_bind ?_
    show wpAny _ _ (if (!t.led && !(#[] : Array (Int × Value)).isEmpty) = true then unsupported "set:maker-not-led" else pure ()) _ _ _
    rw [if_neg (by simp)]
    refine wpAny_pure (wpAny_pure ?_)
    have e1 : (pickOrder (w.params.setOrder a ep) (#[] : Array (Int × Value)))[i]? = none := by
      have := pick_perm (w.params.setOrder a ep) ([] : List (Int × Value)) 0 #[]
      have h2 : (pickOrder (w.params.setOrder a ep) (#[] : Array (Int × Value))).toList = [] := List.Perm.eq_nil (by simpa [pickOrder] using this)
      rw [← Array.getElem?_toList, h2]
      rfl
    rw [e1] at h
    simpa using h
theorem si_item_text {I a : Addr} {i ep : Nat} {es : Array (Int × Value)} {t : SetTable} {e : Int × Value} {Q : Option Value → Shared → Prop}
    (hit : SIt s.heap I a (.int 0 0) i es.size ep) (hs : SetD s.heap a es ep t) (hct : byText w = true ∨ es.size = 0) (hk : (pickOrder (w.params.setOrder a ep) es)[i]? = some e)
    (hQ : ∀ h', SIt h' I a (.int 0 0) (i + 1) es.size ep → Heap.SameBut I s.heap h' → Q (some e.2) { s with heap := h' }) : wpAny (model prog w) A (pyNext (.ref I)) Q E s := by
  have hs0 := hs
  obtain ⟨o, ho, hc, hd⟩ := id hit
  obtain ⟨os, hos, hds, hf⟩ := hs
  unfold pyNext
  refine wpAny_bind (wpAny_attempt (wpAny_callSpecial?_slot (name := Str.ofString "__next__") hit.typeIs slot_si
    (wpAny_call_entry slot_si hit.typeIs entry_si ?_ (args_si _))))
  unfold Builtin.«set_iterator.__next__»
  refine wpAny_bind (m := slotArgs "__next__" 0 _) (wpAny_pure ?_)
  dsimp only
  refine wpAny_bind (wpAny_fieldsOf ho hd ?_)
  dsimp only
  refine wpAny_bind (wpAny_setEntries_of hos hds hf ?_)
  rw [if_neg (by simp)]
  refine wpAny_bind ?_
  simp only [Int.toNat_natCast]
  refine set_next_ hs0 hct ?_
  rw [hk]
  dsimp only [Option.map]
  refine wpAny_bind (wpAny_setField ho hd (by simp) ?_)
  have ho2 := Heap.get?_update_self (Obj.mapFields (·.setIfInBounds 0 (rawInt ((0 : Nat) : Int)))) ho (Obj.isFreed_of_fields (Obj.data_mapFields hd _))
  refine wpAny_bind (wpAny_setField ho2 (Obj.data_mapFields hd _) (by simp) (wpAny_pure ⟨e.2, rfl, ?_⟩))
  refine wpAny_pure (hQ _ ⟨_, Heap.get?_update_self _ ho2 (Obj.isFreed_of_fields (Obj.data_mapFields (Obj.data_mapFields hd _) _)), (Obj.cls_mapFields ..).trans ((Obj.cls_mapFields ..).trans hc), ?_⟩ ((Heap.SameBut.update ..).trans (Heap.SameBut.update ..)))
  rw [Obj.data_mapFields (Obj.data_mapFields hd _)]; simp [rawInt]
set_option maxHeartbeats 2000000 in
theorem si_done_text {I a : Addr} {i ep : Nat} {es : Array (Int × Value)} {t : SetTable} {Q : Option Value → Shared → Prop} (hh : A.handled = none)
    (hit : SIt s.heap I a (.int 0 0) i es.size ep) (hs : SetD s.heap a es ep t) (hct : byText w = true ∨ es.size = 0) (hk : (pickOrder (w.params.setOrder a ep) es)[i]? = none)
    (hQ : ∀ h', Heap.ExtBut I s.heap h' → Q none { s with heap := h' }) : wpAny (model prog w) A (pyNext (.ref I)) Q E s := by
  have hs0 := hs
  obtain ⟨o, ho, hc, hd⟩ := id hit
  obtain ⟨os, hos, hds, hf⟩ := hs
  unfold pyNext
  refine wpAny_bind (wpAny_attempt (wpAny_callSpecial?_slot (name := Str.ofString "__next__") hit.typeIs slot_si
    (wpAny_call_entry slot_si hit.typeIs entry_si ?_ (args_si _))))
  unfold Builtin.«set_iterator.__next__»
  refine wpAny_bind (m := slotArgs "__next__" 0 _) (wpAny_pure ?_)
  dsimp only
  refine wpAny_bind (wpAny_fieldsOf ho hd ?_)
  dsimp only
  refine wpAny_bind (wpAny_setEntries_of hos hds hf ?_)
  rw [if_neg (by simp)]
  refine wpAny_bind ?_
  simp only [Int.toNat_natCast]
  refine set_next_ hs0 hct ?_
  rw [hk]
  dsimp only [Option.map]
  refine wpAny_bind (wpAny_setField ho hd (by simp) ?_)
  exact stop_here (s := s) (I := I) hh (Heap.SameBut.update ..).extBut hQ
theorem entry_sii : entryFor table "set_iterator.__iter__" = some Builtin.«dict_keyiterator.__iter__» :=
  entryFor_alias (id' := "dict_keyiterator.__iter__") (by kernel_rfl) rfl (by decide +kernel) (by kernel_rfl)
theorem args_sii (a : Value) : argsOk "set_iterator.__iter__" ⟨[a], []⟩ := by unfold argsOk; kernel_rfl
theorem si_self {I a : Addr} {first : Value} {i n ep : Nat} {Q : Value → Shared → Prop} (hit : SIt s.heap I a first i n ep) (h : Q (.ref I) s) : wpAny (model prog w) A (pyIter (.ref I)) Q E s := by
  refine wpAny_pyIter_slot hit.typeIs slot_sii (wpAny_call_entry slot_sii hit.typeIs entry_sii ?_ (args_sii _))
  show wpAny _ _ (ret (.ref I)) _ _ s
  exact wpAny_pure ⟨_, rfl, "set_iterator", _, hit.typeIs, slot_si.lookup, h⟩
theorem SIt.keep {h h' : Heap} {I a : Addr} {first : Value} {i n ep : Nat} (x : SIt h I a first i n ep) (k : ∀ o, h.get? I = some o → h'.get? I = some o) : SIt h' I a first i n ep := let ⟨o, ho, r⟩ := x; ⟨o, k _ ho, r⟩
theorem SetD.keep {h h' : Heap} {a : Addr} {es : Array (Int × Value)} {ep : Nat} {t : SetTable} (x : SetD h a es ep t) (k : ∀ o, h.get? a = some o → h'.get? a = some o) : SetD h' a es ep t := let ⟨o, ho, r⟩ := x; ⟨o, k _ ho, r⟩
theorem walksDrawn (hh : A.handled = none) {I a P : Addr} {ep : Nat} {es : Array (Int × Value)} {t : SetTable} {pl : List Nat} (hIa : a ≠ I) (hIP : P ≠ I) (hpl : ∀ k ∈ pl, k < es.size) :
    Walks prog w A I [I, P, a] [I] pl.length (fun i v => ∃ k, pl[i]? = some k ∧ (es.toList.map (·.2))[k]? = some v)
      (fun i h => SIt h I a (.ref P) i es.size ep ∧ SetD h a es ep t ∧ IsTup h P (pl.map fun (i : Nat) => rawInt i).toArray) where
  sub := fun b hb => by simp at hb; simp [hb]
  frame := fun _ _ _ st hk => ⟨st.1.keep fun o e => hk I (by simp) o e, st.2.1.keep fun o e => hk a (by simp) o e, by obtain ⟨o, ho, r⟩ := st.2.2; exact ⟨o, hk P (by simp) o ho, r⟩⟩
  item := fun i s Q E hi st hQ => by
    have hk : pl[i]? = some pl[i] := List.getElem?_eq_getElem hi
    have hlt : pl[i] < (es.toList.map (·.2)).length := by simpa using hpl _ (List.getElem_mem hi)
    refine si_item_drawn st.1 st.2.1 st.2.2 hk (List.getElem?_eq_getElem hlt) fun h' hit' hs' => ?_
    refine hQ _ h' s.toks ⟨_, hk, List.getElem?_eq_getElem hlt⟩ ⟨hit', st.2.1.keep fun o e => hs'.extBut a o hIa e, ?_⟩ fun b o hb e => hs'.extBut b o (fun h => hb (by simp [h])) e
    obtain ⟨o, ho, r⟩ := st.2.2
    exact ⟨o, hs'.extBut P o hIP ho, r⟩
  done := fun s Q E st hQ => si_done_drawn hh st.1 st.2.1 st.2.2 (by simp) fun h' he' => hQ h' s.toks fun b o hb e => he' b o (fun h => hb (by simp [h])) e
  self := fun _ _ _ _ st hQ => si_self st.1 hQ
theorem walksText (hh : A.handled = none) {I a : Addr} {ep : Nat} {es : Array (Int × Value)} {t : SetTable} (hIa : a ≠ I) (hct : byText w = true ∨ es.size = 0) :
    Walks prog w A I [I, a] [I] (pickOrder (w.params.setOrder a ep) es).size (fun i v => ∃ e, (pickOrder (w.params.setOrder a ep) es)[i]? = some e ∧ e.2 = v)
      (fun i h => SIt h I a (.int 0 0) i es.size ep ∧ SetD h a es ep t) where
  sub := fun b hb => by simp at hb; simp [hb]
  frame := fun _ _ _ st hk => ⟨st.1.keep fun o e => hk I (by simp) o e, st.2.keep fun o e => hk a (by simp) o e⟩
  item := fun i s Q E hi st hQ => by
    have hk : (pickOrder (w.params.setOrder a ep) es)[i]? = some (pickOrder (w.params.setOrder a ep) es)[i] := Array.getElem?_eq_getElem hi
    refine si_item_text st.1 st.2 hct hk fun h' hit' hs' => ?_
    exact hQ _ h' s.toks ⟨_, hk, rfl⟩ ⟨hit', st.2.keep fun o e => hs'.extBut a o hIa e⟩ fun b o hb e => hs'.extBut b o (fun h => hb (by simp [h])) e
  done := fun s Q E st hQ => si_done_text hh st.1 st.2 hct (by simp) fun h' he' => hQ h' s.toks fun b o hb e => he' b o (fun h => hb (by simp [h])) e
  self := fun _ _ _ _ st hQ => si_self st.1 hQ
/-- what iterating a set begins -/
theorem set_iter {a : Addr} {es : Array (Int × Value)} {ep : Nat} {t : SetTable} {Q : Value → Shared → Prop} (hT : s.TypeIs (.ref a) "set") (hs : SetD s.heap a es ep t) (hp : es.size = 0 ∨ t.plain = false) (h1 : es.size ≠ 1) (hsz : es.size ≤ 1000)
    (hdr : ∀ (pl : List Nat) d h' P I, pl.Perm (List.range es.size) → Keep s.heap h' → s.heap.objs.size ≤ P → s.heap.objs.size ≤ I → P ≠ I → P < h'.objs.size → I < h'.objs.size → SIt h' I a (.ref P) 0 es.size ep → IsTup h' P (pl.map fun (i : Nat) => rawInt i).toArray → Q (.ref I) { s with heap := h', drawn := d })
    (htx : (byText w = true ∨ es.size = 0) → ∀ h' I, Keep s.heap h' → s.heap.objs.size ≤ I → I < h'.objs.size → SIt h' I a (.int 0 0) 0 es.size ep → Q (.ref I) { s with heap := h' }) :
    wpAny (model prog w) A (pyIter (.ref a)) Q E s := by
  obtain ⟨os, hos, hds, hf⟩ := hs
  refine wpAny_pyIter_slot hT PySem.F.slot_set_iter (wpAny_call_entry PySem.F.slot_set_iter hT entry_seti ?_ (PySem.F.args_set_iter_1 _))
  unfold Builtin.«frozenset.__iter__» Builtin.Frozenset.slot0 slotArgs
  simp only [List.isEmpty_nil, Bool.not_true, Bool.false_eq_true, ↓reduceIte, bind_assoc, List.length_nil, bne_self_eq_false]
  unfold Builtin.Frozenset.addrOf Builtin.Frozenset.sizeOf
  refine wpAny_bind (wpAny_pure ?_)
  try dsimp only
  refine wpAny_bind (wpAny_pure ?_)
  refine wpAny_bind (wpAny_bind (wpAny_setEntries_of hos hds hf (wpAny_pure ?_)))
  unfold setDrawn
  refine wpAny_bind (wpAny_bind (wpAny_setState_of hos hds hf ?_))
  dsimp only
  refine wpAny_bind (wp_byText (wpAny_pure ?_))
  by_cases hc : (!(model prog w).w.params.followText "set-order" && (!t.plain && decide (es.size > 1))) = true
  · refine wp_ite_pos (show _ from hc) ?_
    refine wpAny_bind (draw_perm' (by simp) fun pl d hpl => ?_)
    have hlen : pl.length = es.size := by rw [hpl.length_eq, List.length_range]
    have hz : (1000 : Nat) ≤ sizeLine := by decide
    refine wpAny_bind ?_
    unfold newTuple
    refine wpAny_newObj_type ?_ (by show (pl.map fun (i : Nat) => rawInt i).toArray.size ≤ sizeLine; simp; omega)
    have hos1 := Heap.get?_push_of_some { cls := .type "tuple", data := .seq (pl.map fun (i : Nat) => rawInt i).toArray } hos
    refine wpAny_bind (wpAny_setEpoch_of hos1 hds hf ?_)
    refine wpAny_bind ?_
    unfold newFields
    refine wpAny_newObj_type ?_
    refine wpAny_pure ⟨_, rfl, "set_iterator", _, ⟨_, Heap.get?_push_size _ rfl, rfl⟩, slot_si.lookup, ?_⟩
    refine hdr pl d _ s.heap.objs.size _ hpl (fun b o e => Heap.get?_push_of_some _ (Heap.get?_push_of_some _ e)) (Nat.le_refl _) ?_ ?_ ?_ ?_ ⟨_, Heap.get?_push_size _ rfl, rfl, rfl⟩ ⟨_, Heap.get?_push_of_some _ (Heap.get?_push_size _ rfl), rfl, _, rfl⟩
    · rw [Heap.size_push]; exact Nat.le_succ _
    · rw [Heap.size_push]; exact Nat.ne_of_lt (Nat.lt_succ_self _)
    · rw [Heap.size_push, Heap.size_push]; exact Nat.lt_succ_of_lt (Nat.lt_succ_self _)
    · exact Heap.lt_size (Heap.get?_push_size _ rfl)
  · refine wp_ite_neg (show ¬ _ from hc) ?_
    refine wpAny_bind (wpAny_pure ?_)
    refine wpAny_bind (wpAny_setEpoch_of hos hds hf ?_)
    refine wpAny_bind ?_
    unfold newFields
    refine wpAny_newObj_type ?_
    refine wpAny_pure ⟨_, rfl, "set_iterator", _, ⟨_, Heap.get?_push_size _ rfl, rfl⟩, slot_si.lookup, ?_⟩
    refine htx ?_ _ _ (fun b o e => Heap.get?_push_of_some _ e) (Nat.le_refl _) (by rw [Heap.size_push]; exact Nat.lt_succ_self _) ⟨_, Heap.get?_push_size _ rfl, rfl, rfl⟩
    cases hb : byText w with
    | true => exact .inl rfl
    | false =>
      right
      have hb' : (model prog w).w.params.followText "set-order" = false := hb
      rw [hb'] at hc
      rcases hp with hp | hp
      · exact hp
      · rw [hp] at hc
        simp at hc
        omega
end
end
/-! SetSort -/
section
set_option maxRecDepth 100000
section
variable {prog : Program} {w : World} {A : Around} {E : Value → Shared → Prop} {s : Shared}
theorem len_set : typeLookup (.type "set") "__len__" = pure (some (.builtin "set.__len__")) := by rw [typeLookup_type, builtinLookup_eq_fast]; kernel_rfl
theorem hint_set {a : Addr} {es : Array (Int × Value)} {ep : Nat} {t : SetTable} {o : Obj} {Q : Bool → Shared → Prop} (ho : s.heap.get? a = some o) (hex : o.ExactSet) (hd : o.data = .set es ep t) (hf : t.fits es.size = true) (hz : es.size ≤ 1000)
    (h : ∀ b tk, Q b { s with toks := tk }) : wpAny (model prog w) A (Builtin.List.listLengthHint (.ref a)) Q E s := by
  have hT : s.TypeIs (.ref a) "set" := ⟨o, ho, hex.1⟩
  unfold Builtin.List.listLengthHint
  refine wpAny_bind (wpAny_specialOf hT len_set ?_)
  (generalize hid : ("set.__len__" : String) = id0; (fail_if_success (clear hid id0)); wp_delta; rw [show splitId id0 = some ("set", "__len__") from by subst hid; decide +kernel]; subst hid)
  refine wpAny_bind (wpAny_isInstance (b := true) hT (by rw [isSubtype_type]; kernel_rfl) ?_)
  show wpAny _ _ (typeOf (.ref a) >>= _) _ _ _
  refine wpAny_bind (wpAny_typeOf hT ?_)
  exact wpAny_pure (h false _)
theorem fm_all' {α : Type} : ∀ l : List α, ((List.range l.length).filterMap fun k => l[k]?) = l
  | [] => rfl
  | x :: r => by
    rw [List.length_cons, List.range_succ_eq_map, List.filterMap_cons]
    simp only [List.getElem?_cons_zero, List.filterMap_map]
    congr 1
    have := fm_all' r
    simpa [Function.comp_def] using this
theorem fm_get {α : Type} : ∀ (pl : List Nat) (l : List α), (∀ q ∈ pl, q < l.length) → ∀ i : Nat, (pl.filterMap fun q => l[q]?)[i]? = (pl[i]?).bind fun q => l[q]?
  | [], _, _, i => by simp
  | q :: r, l, h, i => by
    have hql := h q (.head _)
    have hq : l[q]? = some (l[q]'hql) := List.getElem?_eq_getElem hql
    rw [List.filterMap_cons, hq]
    cases i with
    | zero => simp [hq]
    | succ i => simpa using fm_get r l (fun x hx => h x (.tail _ hx)) i
theorem items_list {P : Nat → Value → Prop} {acc : Array Value} {n : Nat} {l : List Value} (h : ItemsOf P acc n) (hP : ∀ i v, P i v → l[i]? = some v) (hn : n = l.length) : acc.toList = l := by
  refine List.ext_getElem? fun i => ?_
  rw [Array.getElem?_toList]
  rcases Nat.lt_or_ge i acc.size with hi | hi
  · have := h.2 i acc[i] (Array.getElem?_eq_getElem hi)
    rw [Array.getElem?_eq_getElem hi, hP i _ this]
  · rw [Array.getElem?_eq_none hi, List.getElem?_eq_none (by have := h.1; omega)]
theorem shared_of {s s' : Shared} {h : Heap} {d : Drawn} {tk : Nat} {wr : List Addr} (hm : Moved wr (fun a b => b = a) { s with heap := h, drawn := d, toks := tk } s') : s' = { s with heap := s'.heap, drawn := d, toks := s'.toks } := by
  obtain ⟨_, hg, hd, ho, _⟩ := hm
  cases s'; cases s; simp_all
/-- a set's items, in some order -/
theorem collect_set {a : Addr} {xs : List Str} {Q : List Value → Shared → Prop} (hh : A.handled = none) (hS : SetS prog w s.heap a xs) (h1 : xs.length ≠ 1) (hz : xs.length ≤ 1000)
    (hQ : ∀ vs ys h' d tk, StrsAre vs ys → List.Perm ys xs → Keep s.heap h' → s.heap.objs.size < h'.objs.size → Q vs { s with heap := h', drawn := d, toks := tk }) : wpAny (model prog w) A (collect (.ref a)) Q E s := by
  obtain ⟨o, es, ep, t, ho, hex, hd, hel, hxs, hf, hpl⟩ := hS
  have hsz : es.size = xs.length := by
    have := StrsAre.len hxs
    rw [List.length_map, Array.length_toList] at this
    exact this
  have hS1 : (1000 : Nat) ≤ sizeLine := by decide
  unfold collect
  refine wpAny_bind (wpAny_runValue (codeAny_builtin PySem.F.entry_proto_collect ?_))
  rw [Around.under_plainId PySem.F.plain_proto_collect _]
  show wpAny _ A.in1 (newList [] >>= fun l => again (.builtin "list.__iadd__" ⟨[l, .ref a], []⟩)) _ _ s
  refine wpAny_bind (wpAny_newObj_type ?_)
  refine wpAny_pure ⟨plainId_quiet PySem.F.plain_list_iadd _, codeAny_builtin PySem.F.entry_list_iadd ?_⟩
  rw [Around.under_plainId PySem.F.plain_list_iadd _]
  have hL₁ : (s.heap.push { cls := .type "list", data := .seq ([] : List Value).toArray }).get? s.heap.objs.size = some { cls := .type "list", data := .seq ([] : List Value).toArray } := Heap.get?_push_size _ rfl
  have ho₁ : (s.heap.push { cls := .type "list", data := .seq ([] : List Value).toArray }).get? a = some o := Heap.get?_push_of_some _ ho
  have hlt : a < s.heap.objs.size := Heap.lt_size ho
  have hne : s.heap.objs.size ≠ a := Nat.ne_of_gt hlt
  have h1' : Builtin.List.listSameRef (.ref s.heap.objs.size) (.ref a) = false := by simp [Builtin.List.listSameRef, hne]
  have hT₁ : Shared.TypeIs { s with heap := s.heap.push { cls := .type "list", data := .seq ([] : List Value).toArray } } (.ref a) "set" := ⟨o, ho₁, hex.1⟩
  show wpAny _ A.in1 (Builtin.List.listExtendWith (.ref s.heap.objs.size) (.ref a) (.ref s.heap.objs.size)) _ _ _
  unfold Builtin.List.listExtendWith
  refine wpAny_bind (wpAny_typeOf hT₁ ?_)
  rw [if_neg (by rw [h1']; decide)]
  have hD₁ : SetD (s.heap.push { cls := .type "list", data := .seq ([] : List Value).toArray }) a es ep t := ⟨o, ho₁, hd, hf⟩
  have hsize : (s.heap.push { cls := .type "list", data := .seq ([] : List Value).toArray }).objs.size = s.heap.objs.size + 1 := Heap.size_push ..
  have ordp : ∀ (ord : List (Int × Value)), List.Perm ord es.toList → ∃ ys, StrsAre (ord.map (·.2)) ys ∧ List.Perm ys xs := fun ord hp => strs_perm (hp.map (·.2)) hxs
  have hhi : A.in1.handled = none := hh
  have fin : ∀ (h₂ : Heap) (d₂ : Drawn) (I : Addr), Keep (s.heap.push { cls := .type "list", data := .seq ([] : List Value).toArray }) h₂ → s.heap.objs.size + 1 ≤ I →
      (∃ (fp : List Addr) (n : Nat) (P : Nat → Value → Prop) (St : Nat → Heap → Prop) (ord : List Value) (ys : List Str), Walks prog w A.in1 I fp [I] n P St ∧ St 0 h₂ ∧ s.heap.objs.size ∉ fp ∧ n ≤ sizeLine ∧ (∀ i v, P i v → ord[i]? = some v) ∧ n = ord.length ∧ StrsAre ord ys ∧ List.Perm ys xs) →
      ∃ (fp : List Addr) (n : Nat) (P : Nat → Value → Prop) (St : Nat → Heap → Prop) (ord : List Value) (ys : List Str), Walks prog w A.in1 I fp [I] n P St ∧ St 0 h₂ ∧ s.heap.objs.size ∉ fp ∧ n ≤ sizeLine ∧ (∀ i v, P i v → ord[i]? = some v) ∧ n = ord.length ∧ StrsAre ord ys ∧ List.Perm ys xs := fun _ _ _ _ _ x => x
  refine wpAny_bind (set_iter (s := { s with heap := s.heap.push { cls := .type "list", data := .seq ([] : List Value).toArray } }) hT₁ hD₁ hpl (by omega) (by omega) (fun pl d h₂ P I hperm k hP hI hPI hPs hIs hit hip => ?_) (fun hct h₂ I k hI hIs hit => ?_))
  · have hlen : pl.length = es.size := by rw [hperm.length_eq, List.length_range]
    have hmem : ∀ q ∈ pl, q < es.size := fun q hq => List.mem_range.mp (hperm.mem_iff.mp hq)
    have hI' : s.heap.objs.size + 1 ≤ I := by rw [← hsize]; exact hI
    have hP' : s.heap.objs.size + 1 ≤ P := by rw [← hsize]; exact hP
    have hordp : List.Perm (pl.filterMap fun q => es.toList[q]?) es.toList := by
      have h1 := hperm.filterMap (fun q => es.toList[q]?)
      have h2 := fm_all' es.toList
      rw [Array.length_toList] at h2
      rw [h2] at h1
      exact h1
    have hordg : ∀ i, (pl.filterMap fun q => es.toList[q]?)[i]? = (pl[i]?).bind fun q => es.toList[q]? := fm_get pl es.toList (fun q hq => by rw [Array.length_toList]; exact hmem q hq)
    obtain ⟨ys, hys, hyp⟩ := ordp _ hordp
    have hIa : a ≠ I := fun e => by subst e; exact absurd hI' (Nat.not_le.mpr (Nat.lt_succ_of_lt hlt))
    have hPn : s.heap.objs.size ∉ [I, P, a] := by
      simp only [List.mem_cons, List.not_mem_nil, or_false, not_or]
      exact ⟨fun e => absurd hI' (by rw [← e]; exact Nat.not_succ_le_self _), fun e => absurd hP' (by rw [← e]; exact Nat.not_succ_le_self _), hne⟩
    obtain ⟨fp, n, Pp, St, ordv, ys', W, hst, hfp, hn, hPo, hno, hov, hyp'⟩ := fin h₂ d I k hI' ⟨_, _, _, _, (pl.filterMap fun q => es.toList[q]?).map (·.2), ys, walksDrawn hhi (a := a) (t := t) hIa hPI hmem, ⟨hit, hD₁.keep fun o e => k _ _ e, hip⟩, hPn, by omega, (fun i v ⟨q, hq, hv⟩ => by
      rw [List.getElem?_map, hordg i, hq]
      simpa using hv), by (have := hordp.length_eq; simp [List.length_map] at this ⊢; omega), hys, hyp⟩
    clear hordp hordg hys hyp hmem hperm hit hip
    have ho₂ : h₂.get? a = some o := k _ _ ho₁
    have hL₂ : h₂.get? s.heap.objs.size = some { cls := .type "list", data := .seq ([] : List Value).toArray } := k _ _ hL₁
    refine wpAny_bind (wpAny_holding (hint_set (ho := ho₂) hex hd hf (by omega) fun b tk => ?_))
    refine wpAny_bind (wpAny_pure ?_)
    refine wp_ite_pos (by cases b <;> kernel_rfl) ?_
    refine wpAny_bind (wpAny_rule ?_)
    refine wpAny_bind ?_
    show wpAny _ A.in1 (updateSeq s.heap.objs.size (·.push .none) >>= fun _ => updateSeq s.heap.objs.size (·.pop)) _ _ _
    refine wpAny_bind (wpAny_updateSeq hL₂ rfl ?_)
    have hS₂ := Heap.get?_update_self (Obj.mapSeq (·.push Value.none)) hL₂ rfl
    refine wpAny_updateSeq hS₂ rfl ?_
    have hS₃ := Heap.get?_update_self (Obj.mapSeq (·.pop)) hS₂ rfl
    have oth : ∀ b o, b ≠ s.heap.objs.size → h₂.get? b = some o →
        ((h₂.update s.heap.objs.size (Obj.mapSeq (·.push Value.none))).update s.heap.objs.size (Obj.mapSeq (·.pop))).get? b = some o :=
      fun b o hb e => (Heap.get?_update_other _ _ (Ne.symm hb)).trans ((Heap.get?_update_other _ _ (Ne.symm hb)).trans e)
    refine wpAny_pure ⟨plainId_quiet PySem.F.plain_extend_loop _, codeAny_extend_loopS W.toS hn _ hfp _ n 0 _ _ _ rfl (Nat.zero_le _) (W.frame 0 _ _ hst fun b hb o e => oth b o (fun h => hfp (h ▸ hb)) e) hS₃ (ItemsOf.nil Pp) fun s' acc' c' hm hS' hacc => ?_⟩
    show wpAny _ A (load s.heap.objs.size >>= _) _ _ s'
    refine wpAny_bind (wpAny_load hS' ?_)
    refine wpAny_pure ?_
    rw [items_list hacc hPo hno]
    have e := shared_of (s := s) (h := (h₂.update s.heap.objs.size (Obj.mapSeq (·.push Value.none))).update s.heap.objs.size (Obj.mapSeq (·.pop))) (d := d) (tk := tk) hm
    rw [e]
    refine hQ _ ys' _ _ _ hov hyp' (fun c o hc => ?_) (Heap.lt_size hS')
    have hlc : c < s.heap.objs.size := Heap.lt_size hc
    have hc1 : c ≠ s.heap.objs.size := Nat.ne_of_lt hlc
    have hc2 : c ≠ I := fun e => by subst e; exact absurd hI' (Nat.not_le.mpr (Nat.lt_succ_of_lt hlc))
    exact hm.heap c o (by simp [hc1, hc2]) (oth c o hc1 (k _ _ (Heap.get?_push_of_some _ hc)))
  · have hI' : s.heap.objs.size + 1 ≤ I := by rw [← hsize]; exact hI
    have hordp : List.Perm (pickOrder (w.params.setOrder a ep) es).toList es.toList := by
      have := pick_perm (w.params.setOrder a ep) es.toList 0 #[]
      simpa [pickOrder] using this
    obtain ⟨ys, hys, hyp⟩ := ordp _ hordp
    have hIa : a ≠ I := fun e => by subst e; exact absurd hI' (Nat.not_le.mpr (Nat.lt_succ_of_lt hlt))
    have hPn : s.heap.objs.size ∉ [I, a] := by
      simp only [List.mem_cons, List.not_mem_nil, or_false, not_or]
      exact ⟨fun e => absurd hI' (by rw [← e]; exact Nat.not_succ_le_self _), hne⟩
    have hsz2 : (pickOrder (w.params.setOrder a ep) es).size = es.size := by rw [← Array.length_toList, hordp.length_eq, Array.length_toList]
    obtain ⟨fp, n, Pp, St, ordv, ys', W, hst, hfp, hn, hPo, hno, hov, hyp'⟩ := fin h₂ s.drawn I k hI' ⟨_, _, _, _, (pickOrder (w.params.setOrder a ep) es).toList.map (·.2), ys, walksText hhi (a := a) (t := t) hIa hct, ⟨hit, hD₁.keep fun o e => k _ _ e⟩, hPn, by omega, (fun i v ⟨q, hq, hv⟩ => by
      rw [List.getElem?_map, Array.getElem?_toList, hq, ← hv]; rfl), by rw [List.length_map, Array.length_toList], hys, hyp⟩
    clear hordp hys hyp hit
    have ho₂ : h₂.get? a = some o := k _ _ ho₁
    have hL₂ : h₂.get? s.heap.objs.size = some { cls := .type "list", data := .seq ([] : List Value).toArray } := k _ _ hL₁
    refine wpAny_bind (wpAny_holding (hint_set (ho := ho₂) hex hd hf (by omega) fun b tk => ?_))
    refine wpAny_bind (wpAny_pure ?_)
    refine wp_ite_pos (by cases b <;> kernel_rfl) ?_
    refine wpAny_bind (wpAny_rule ?_)
    refine wpAny_bind ?_
    show wpAny _ A.in1 (updateSeq s.heap.objs.size (·.push .none) >>= fun _ => updateSeq s.heap.objs.size (·.pop)) _ _ _
    refine wpAny_bind (wpAny_updateSeq hL₂ rfl ?_)
    have hS₂ := Heap.get?_update_self (Obj.mapSeq (·.push Value.none)) hL₂ rfl
    refine wpAny_updateSeq hS₂ rfl ?_
    have hS₃ := Heap.get?_update_self (Obj.mapSeq (·.pop)) hS₂ rfl
    have oth : ∀ b o, b ≠ s.heap.objs.size → h₂.get? b = some o →
        ((h₂.update s.heap.objs.size (Obj.mapSeq (·.push Value.none))).update s.heap.objs.size (Obj.mapSeq (·.pop))).get? b = some o :=
      fun b o hb e => (Heap.get?_update_other _ _ (Ne.symm hb)).trans ((Heap.get?_update_other _ _ (Ne.symm hb)).trans e)
    refine wpAny_pure ⟨plainId_quiet PySem.F.plain_extend_loop _, codeAny_extend_loopS W.toS hn _ hfp _ n 0 _ _ _ rfl (Nat.zero_le _) (W.frame 0 _ _ hst fun b hb o e => oth b o (fun h => hfp (h ▸ hb)) e) hS₃ (ItemsOf.nil Pp) fun s' acc' c' hm hS' hacc => ?_⟩
    show wpAny _ A (load s.heap.objs.size >>= _) _ _ s'
    refine wpAny_bind (wpAny_load hS' ?_)
    refine wpAny_pure ?_
    rw [items_list hacc hPo hno]
    have e := shared_of (s := s) (h := (h₂.update s.heap.objs.size (Obj.mapSeq (·.push Value.none))).update s.heap.objs.size (Obj.mapSeq (·.pop))) (d := s.drawn) (tk := tk) hm
    rw [e]
    refine hQ _ ys' _ _ _ hov hyp' (fun c o hc => ?_) (Heap.lt_size hS')
    have hlc : c < s.heap.objs.size := Heap.lt_size hc
    have hc1 : c ≠ s.heap.objs.size := Nat.ne_of_lt hlc
    have hc2 : c ≠ I := fun e => by subst e; exact absurd hI' (Nat.not_le.mpr (Nat.lt_succ_of_lt hlc))
    exact hm.heap c o (by simp [hc1, hc2]) (oth c o hc1 (k _ _ (Heap.get?_push_of_some _ hc)))
theorem call_sorted_set {a : Addr} {xs : List Str} {Q : Value → Shared → Prop} (hh : A.handled = none) (hS : SetS prog w s.heap a xs) (h1 : xs.length ≠ 1) (hz : xs.length < 64)
    (hQ : ∀ L vs ys h' d tk, StrsAre vs ys → List.Perm ys xs → sortedS ys = true → Keep s.heap h' → s.heap.objs.size ≤ L → (∃ n, h'.get? L = some (PySem.W.listOf vs.toArray n)) → Q (.ref L) { s with heap := h', drawn := d, toks := tk }) :
    wpAny (model prog w) A (call (.builtin "sorted") [.ref a]) Q E s := by
  refine Calls.call_function_entry kind_sorted plain_sorted entry_sorted (args_sorted1 _) ?_
  unfold Builtin.«sorted»
  refine wpAny_bind (m := checkCount "sorted" 1 1 _) (wpAny_pure ?_)
  refine wpAny_bind (collect_set (show A.in1.handled = none from hh) hS h1 (by omega) fun vs ys h' d tk hvs hp k hls => ?_)
  have hlen : vs.length = xs.length := by rw [StrsAre.len hvs, hp.length_eq]
  refine wpAny_bind (wpAny_newList ?_ (Nat.le_trans (show vs.length ≤ 1000 by omega) (by decide)))
  have hoL : (h'.push (seqObj "list" vs.toArray 0)).get? h'.objs.size = some (seqObj "list" vs.toArray 0) := Heap.get?_push_size _ rfl
  refine wpAny_bind (wpAny_holding (wpAny_call_entry slot_list_sort ⟨_, hoL, rfl⟩ entry_list_sort (list_sort_treeK strKind_oneLt hoL hvs.keysOf (fun v₁ v₂ rest e => keyKind_strs (by rw [← e]; exact hvs)) (by omega) fun st' hp' hs' => ⟨_, rfl, ?_⟩) (args_list_sort _)))
  refine wpAny_pure ?_
  obtain ⟨ss', g1, g2, g3⟩ := sorted_out_str hvs hp' hs'
  have oth : ∀ c o, c < h'.objs.size → h'.get? c = some o → (sortedHeap (h'.push (seqObj "list" vs.toArray 0)) h'.objs.size vs ((arrOf st').map (·.2))).get? c = some o := fun c o hc e => by
    unfold sortedHeap
    rw [Heap.get?_update_other _ _ (Nat.ne_of_gt hc)]
    refine Heap.get?_push_of_some _ (Heap.get?_push_of_some _ ?_)
    rw [Heap.get?_update_other _ _ (Nat.ne_of_gt hc)]
    exact Heap.get?_push_of_some _ e
  refine ⟨_, rfl, hQ h'.objs.size _ ss' _ d tk g1 (g2.trans hp) g3 (fun c o hc => oth c o (Heap.lt_size (k c o hc)) (k c o hc)) (Nat.le_of_lt hls) ?_⟩
  have e0 : ((arrOf st').map (·.2)).toList.toArray = (arrOf st').map (·.2) := Array.toArray_toList
  rw [e0]
  unfold sortedHeap
  have q1 : ((((h'.push (seqObj "list" vs.toArray 0)).update h'.objs.size (Obj.mapSeq fun _ => #[])).push (seqObj "tuple" vs.toArray 0)).push (seqObj "list" #[] 0)).get? h'.objs.size = some (Obj.mapSeq (fun _ => #[]) (seqObj "list" vs.toArray 0)) :=
    Heap.get?_push_of_some _ (Heap.get?_push_of_some _ (Heap.get?_update_self _ hoL rfl))
  exact ⟨_, Heap.get?_update_self _ q1 rfl⟩
end
/-- an object that is a set of these strs, wherever it stands -/
def SetOb (prog : Program) (w : World) (o : Obj) (ys : List Str) : Prop := ∀ h a, h.get? a = some o → SetP prog w h a ys
theorem SetP.ob {prog : Program} {w : World} {h : Heap} {a : Addr} {ys : List Str} (x : SetP prog w h a ys) : ∃ o, h.get? a = some o ∧ SetOb prog w o ys ∧ tupObj o = false := by
  obtain ⟨xs, ⟨o, es, ep, t, ho, r1, hd, r⟩, hp⟩ := x
  exact ⟨o, ho, fun h' a' ho' => ⟨xs, ⟨o, es, ep, t, ho', r1, hd, r⟩, hp⟩, by unfold tupObj; rw [hd]; simp⟩
section
variable {prog : Program} {w : World} {A : Around} {E : Value → Shared → Prop} {s : Shared} {h₀ : Heap} {L : Addr} {m : Str → Option Value} {news : List (Addr × Obj)}
theorem set_use {l : Addr} {vs : List Value} {ss : List Str} {Q : Value → Shared → Prop} (hh : A.handled = none) (F : Fr h₀ L s.heap m) (N : News h₀ L s.heap news) (hl : s.heap.IsList l vs.toArray) (hi : StrsAre vs ss) (hn : ss.Nodup) (hb : vs.length + 1 < scanBound)
    (h : ∀ S oS h' tk', tupObj oS = false → Fr h₀ L h' m → News h₀ L h' ((S, oS) :: news) → (∀ p ∈ news, p.1 ≠ S) → SetOb prog w oS ss → Q (.ref S) { s with heap := h', toks := tk' }) :
    wpAny (model prog w) A (call (.type "set") [.ref l]) Q E s := by
  refine call_set_strs hh hl hi hn hb fun h' tk hS k => ?_
  obtain ⟨o, ho, hob, ht⟩ := hS.ob
  have k' : Keep s.heap h' := fun b o e => k b o (Heap.lt_size e) e
  refine h _ o h' tk ht (Fr.byKeep F k') (fun q hq => ?_) (fun p hp => Nat.ne_of_lt (Heap.lt_size (N p hp).1)) hob
  rcases List.mem_cons.mp hq with rfl | hq
  · refine ⟨ho, Nat.ne_of_gt F.ns.lt, ?_⟩
    cases e : h₀.get? s.heap.objs.size with
    | none => rfl
    | some o => exact absurd (Heap.lt_size (F.keep _ _ e)) (Nat.lt_irrefl _)
  · exact News.byKeep N k' q hq
theorem sorted_use {S : Addr} {oS : Obj} {ys : List Str} {Q : Value → Shared → Prop} (hh : A.handled = none) (F : Fr h₀ L s.heap m) (N : News h₀ L s.heap news) (hm : (S, oS) ∈ news) (hS : SetOb prog w oS ys) (h1 : ys.length ≠ 1) (hz : ys.length < 64)
    (h : ∀ l vs zs n h' d tk', Fr h₀ L h' m → News h₀ L h' ((l, PySem.W.listOf (List.toArray vs) n) :: news) → (∀ p ∈ news, p.1 ≠ l) → StrsAre vs zs → List.Perm zs ys → sortedS zs = true → Q (.ref l) { s with heap := h', drawn := d, toks := tk' }) :
    wpAny (model prog w) A (call (.builtin "sorted") [.ref S]) Q E s := by
  obtain ⟨xs, hx, hp⟩ := hS _ _ (N _ hm).1
  refine call_sorted_set hh hx (by rw [hp.length_eq]; exact h1) (by rw [hp.length_eq]; exact hz) fun l vs zs h' d tk hvs hzs hso k hl ⟨n, ho⟩ => ?_
  refine h l vs zs n h' d tk (Fr.byKeep F k) (fun q hq => ?_) (fun p hp => Nat.ne_of_lt (Nat.lt_of_lt_of_le (Heap.lt_size (N p hp).1) hl)) hvs (hzs.trans hp) hso
  rcases List.mem_cons.mp hq with rfl | hq
  · refine ⟨ho, Nat.ne_of_gt (Nat.lt_of_lt_of_le F.ns.lt hl), ?_⟩
    cases e : h₀.get? l with
    | none => rfl
    | some o => exact absurd (Heap.lt_size (F.keep _ _ e)) (Nat.not_lt.mpr hl)
  · exact News.byKeep N k q hq
end
end
/-! Vars2 -/
section
open PyProof.Rows.LCg
theorem sorted_xy {zs : List Str} (h : List.Perm zs [qx, qy]) (hs : sortedS zs = true) : zs = [qx, qy] := by
  have hl := h.length_eq
  have hn : zs.Nodup := h.nodup_iff.mpr (by decide +kernel)
  match zs, hl with
  | [a, b], _ =>
    have ha : a ∈ [qx, qy] := h.mem_iff.mp (.head _)
    have hb : b ∈ [qx, qy] := h.mem_iff.mp (.tail _ (.head _))
    simp only [List.mem_cons, List.not_mem_nil, or_false] at ha hb
    rcases ha with rfl | rfl <;> rcases hb with rfl | rfl
    · simp at hn
    · rfl
    · exact absurd hs (by decide +kernel)
    · simp at hn
theorem strs_xy {vs : List Value} {zs : List Str} (hv : StrsAre vs zs) (h : List.Perm zs [qx, qy]) (hs : sortedS zs = true) : ∃ t1 t2, vs = [.str qx t1, .str qy t2] := by
  have := sorted_xy h hs
  subst this
  cases hv with
  | cons _ t1 hv => cases hv with
    | cons _ t2 hv => cases hv; exact ⟨t1, t2, rfl⟩
section
variable {prog : Program} {w : World} {A : Around} {s : Shared} {h₀ : Heap} {L : Addr} {m : Str → Option Value} {news : List (Addr × Obj)} {p : Program} {loose : List Str} {mean : ExcName → Option Value} {mg mb : Str → Option Value} {E : Value → Shared → Prop} {Q : Value → Shared → Prop}
theorem isvar_use {t : Tm} {b : Bool} {v : Value} (C : IsVarC prog w p loose mean mg mb t b) (F : Fr h₀ L s.heap m) (X : (hd.heap_1 w.params).In h₀) (T : Top p loose mean mg mb h₀) (N : News h₀ L s.heap news) (R : Rm A 1) (hv : Tv (IsTup s.heap) v t.py)
    (h : ∀ h' tk', Fr h₀ L h' m → News h₀ L h' news → Q (.bool b) { s with heap := h', toks := tk' }) : wpAny (model prog w) A (call (.ref 109) [v]) Q E s :=
  C _ _ _ _ _ (X.keeps F.keep) (T.keeps F.keep) R hv fun h' tk' k => h h' tk' (Fr.byKeep F k) (News.byKeep N k)
theorem parts2_use {qa qb : Str} {v : Value} (F : Fr h₀ L s.heap m) (X : (hd.heap_1 w.params).In h₀) (T : Top p loose mean mg mb h₀) (N : News h₀ L s.heap news) (R : Rm A 2) (hv : Tv (IsTup s.heap) v (Tm.bin (.leaf qa) (.leaf qb)).py)
    (h : ∀ l h' tk' n tl T1 T2 T3 p1 p2 p3 g x y k1 k2, Fr h₀ L h' m → News h₀ L h' ((l, PySem.W.listOf (List.toArray [.ref T1, .ref T2, .ref T3]) n) :: (news ++ tl)) → (∀ p ∈ news, p.1 ≠ l) → AllTup tl →
      Tp h₀ tl T1 #[p1, .ref g] → Tv (Tp h₀ tl) (.ref g) (Tm.bin (.leaf qa) (.leaf qb)).py → Tp h₀ tl T2 #[p2, .ref x] → Tp h₀ tl x #[.str qa k1] → Tv (Tp h₀ tl) (.ref x) (Tm.leaf qa).py →
      Tp h₀ tl T3 #[p3, .ref y] → Tp h₀ tl y #[.str qb k2] → Tv (Tp h₀ tl) (.ref y) (Tm.leaf qb).py → Q (.ref l) { s with heap := h', toks := tk' }) :
    wpAny (model prog w) A (call (.ref 124) [v]) Q E s := by
  refine parts_use (parts2_bin parts2_leaf parts2_leaf) F X T N R (by simp [Tm.size, Tm.height]) hv fun l h' tk' vs n tl F' N' o1 hA hn hz hd => ?_
  simp only [partsL, List.map, under, List.cons_append, List.nil_append] at hd
  cases hd with
  | cons a hd =>
    cases hd with
    | cons b hd =>
      cases hd with
      | cons c hd =>
        cases hd
        obtain ⟨T1, p1, g, rfl, a1, _, a2⟩ := a
        obtain ⟨T2, p2, x, rfl, b1, _, b2⟩ := b
        obtain ⟨T3, p3, y, rfl, c1, _, c2⟩ := c
        obtain ⟨g, k, u, u', rfl, _, _, _⟩ := Tm.bin_inv a2
        obtain ⟨x, k1, rfl, b3⟩ := Tm.leaf_inv b2
        obtain ⟨y, k2, rfl, c3⟩ := Tm.leaf_inv c2
        exact h l h' tk' n tl T1 T2 T3 p1 p2 p3 g x y k1 k2 F' N' o1 hA a1 a2 b1 b3 b2 c1 c3 c2
end
theorem w61 : True := by
  k_with "M call ref" => ((fail_if_success (have := endOfVars2)); case' FRESH => ((k_here; (with_reducible show wpAny _ _ (call (Value.ref 109) _) _ _ _); k_dflt (refine' isvar_use ?C ?F ?X ?T ?N ?R ?hv ?_; (case hv => first | exact Tv.at0 (by k_asm) (by assumption) | exact Tv.at (by assumption) (by k_asm) (by k_asm) (by k_all)); (case C => assumption); (case F => k_asm); (case X => k_asm); (case T => k_asm); (case N => k_asm); (case R => exact Rm.le (Rm.deeper (by assumption)) (by omega)); k_whole); intro h' tk' F' N')))
  trivial
theorem w62 : True := by
  k_with "M call ref" => ((fail_if_success (have := endOfVars2)); case' FRESH => ((k_here; (with_reducible show wpAny _ _ (call (Value.ref 124) _) _ _ _); k_dflt (refine' parts2_use ?F ?X ?T ?N ?R ?hv ?_; (case hv => first | exact Tv.at0 (by k_asm) (by assumption) | exact Tv.at (by assumption) (by k_asm) (by k_asm) (by k_all)); (case F => k_asm); (case X => k_asm); (case T => k_asm); (case N => k_asm); (case R => exact Rm.le (Rm.deeper (by assumption)) (by omega)); k_whole); intro l' h' tk' n' tl' T1' T2' T3' p1' p2' p3' g' x' y' k1' k2' F' N' l1 hA' a1' a2' b1' b2' b3' c1' c2' c3'; (try simp only [List.cons_append, List.nil_append] at N'))))
  trivial
theorem w63 : True := by
  k_with "M eval ListComp" => ((fail_if_success (have := endOfVars2)); case' FRESH => ((k_here; (with_reducible show wpAny _ _ (eval (PySem.Expr.ListComp _ [PySem.Comprehension.mk _ _ [] _] _ _) _) _ _ _); k_dflt (refine' comp_gen0 ?F ?cl ?cell ?kind ?names ?ok ?_ ?hs; (case F => k_asm); (case cl => with_unfolding_all rfl); (case cell => decide); (case kind => rfl); (case names => decide); (case ok => decide +kernel); (case hs => intro _; with_unfolding_all rfl); k_whole))))
  trivial
theorem w64 : True := by
  k_with "M eval ListComp" => ((fail_if_success (have := endOfVars2)); case' FRESH => ((k_here; (with_reducible show wpAny _ _ (eval (PySem.Expr.ListComp _ [PySem.Comprehension.mk _ _ [_] _] _ _) _) _ _ _); k_dflt (refine' comp_gen1 ?F ?cl ?cell ?kind ?names ?ok ?_ ?hs; (case F => k_asm); (case cl => with_unfolding_all rfl); (case cell => decide); (case kind => rfl); (case names => decide); (case ok => decide +kernel); (case hs => intro _; with_unfolding_all rfl); k_whole))))
  trivial
theorem w65 : True := by
  k_with "M call type:set cons nil" => ((fail_if_success (have := endOfVars2)); case' FRESH => ((k_here; k_dflt (refine' set_use ?hh ?F ?N ?l ?i ?n ?b ?_; (case hh => rfl); (case F => k_asm); (case N => k_asm); (case l => exact News.isList (by k_asm) (by k_mem)); (case i => first | exact StrsAre.nil | exact StrsAre.cons _ _ (StrsAre.cons _ _ StrsAre.nil)); (case n => first | assumption | decide +kernel); (case b => exact Nat.le_of_ble_eq_true rfl); k_whole); intro S' oS' h' tk' hO' F' N' l1 hS')))
  trivial
theorem w66 : True := by
  k_with "M call builtin:sorted" => ((fail_if_success (have := endOfVars2)); case' FRESH => ((k_here; k_dflt (refine' sorted_use ?hh ?F ?N ?m ?S ?a ?b ?_; (case hh => rfl); (case F => k_asm); (case N => k_asm); (case m => k_mem); (case S => assumption); (case a => exact Nat.ne_of_beq_eq_false rfl); (case b => exact Nat.le_of_ble_eq_true rfl); k_whole); intro l' vs' zs' n' h' d' tk' F' N' l1 hv' hp' hs')))
  trivial
/-- the variables of a written term of two -/
def VarsC (prog : Program) (w : World) (p : Program) (loose : List Str) (mean : ExcName → Option Value) (mg mb : Str → Option Value) (a b : Str) : Prop :=
  ∀ (A : Around) (s : Shared) (v : Value) (E : Value → Shared → Prop) (Q : Value → Shared → Prop),
    (hd.heap_1 w.params).In s.heap → Top p loose mean mg mb s.heap → Rm A 4 → Tv (IsTup s.heap) v (Tm.bin (.leaf a) (.leaf b)).py →
    (∀ l h' d tk' t1 t2 n, s.heap.get? l = none → Keep s.heap h' → h'.get? l = some (PySem.W.listOf (List.toArray [.str qx t1, .str qy t2]) n) → Q (.ref l) { s with heap := h', drawn := d, toks := tk' }) →
    wpAny (model prog w) A (call (.ref 114) [v]) Q E s
section
variable {prog : Program} {w : World} {p : Program} {loose : List Str} {mean : ExcName → Option Value} {mg mb : Str → Option Value}
set_option maxHeartbeats 4000000 in
theorem vars_gen {qa qb : Str} (i1 : IsVarC prog w p loose mean mg mb (.leaf qa) true) (i2 : IsVarC prog w p loose mean mg mb (.leaf qb) true) (hnd : [qa, qb].Nodup) (hpe : List.Perm [qa, qb] [qx, qy]) : VarsC prog w p loose mean mg mb qa qb := by
  intro A s v E Q X T R hv h
  obtain ⟨hA, dA, fA, gA, uA⟩ := A
  obtain rfl : hA = none := R.hh
  obtain ⟨a, k, v1, v2, rfl, hx, hu, hu'⟩ := Tm.bin_inv hv
  have i3 : IsVarC prog w p loose mean mg mb (.bin (.leaf qa) (.leaf qb)) false := isvar_bin
  refine wpAny_call ?_
  k_dflt (refine' enter0 (binds := [(Str.ofString "t", .ref a)]) X T ?ho ?hcd (Rm.room R) ?hb ?hl ?_ ?c1 ?c2 ?c3 ?c4)
  case ho => k_dflt k_is
  case hcd => k_dflt k_is
  case hb => exact BindsTo.of_eq rfl
  case hl => exact locs rfl
  case c1 => rfl
  case c2 => rfl
  case c3 => rfl
  case c4 => decide
  intro L h₁ tk1 F N
  refine (?_ : let mM' := _; let aA' := _; wpAny mM' aA' _ _ _ _); intro mM' aA'
  k_fold
  k_steps
  rename Fr _ _ _ _ => F9
  rename News _ _ _ _ => N9
  rename StrsAre _ _ => hst
  rename List.Perm _ _ => hp
  obtain ⟨t1, t2, rfl⟩ := strs_xy hst (hp.trans hpe) (by assumption)
  exact h _ _ _ _ _ _ _ (fresh_of N9 (by k_mem)) (Fr.keep F9) (News.at N9 (by k_mem))
theorem vars_xy : VarsC prog w p loose mean mg mb qx qy := vars_gen isvar_x isvar_y (by decide +kernel) (.refl _)
theorem vars_yx : VarsC prog w p loose mean mg mb qy qx := vars_gen isvar_y isvar_x (by decide +kernel) (.swap ..)
end
end
theorem endOfVars2 : True := trivial
/-! ExcA -/
section
/-! an own exception on its way: all of its object but the traceback's cell is known -/
abbrev exAt (oe : Obj) (vs : Array Value) (x : Value) : Obj := { oe with data := .fields (vs.setIfInBounds 1 x) }
/-- e bears a traceback whose flight mark is fl -/
def Tr (h base : Heap) (e : Addr) (oe : Obj) (vs : Array Value) (fl : Value) : Prop :=
  ∃ T oT ts, h.get? e = some (exAt oe vs (.ref T)) ∧ base.get? T = none ∧ T ≠ e ∧ h.get? T = some oT ∧ oT.data = .fields ts ∧ ts[3]? = some fl
/-- e flies through the frames of l -/
structure Fly (base : Heap) (l : List Env) (e : Addr) (oe : Obj) (vs : Array Value) (fl : Value) (h : Heap) : Prop where
  stays : base.StaysIn h
  new : base.get? e = none
  frames : h.FunFrames base l
  tr : Tr h base e oe vs fl
theorem set_set (vs : Array Value) (x y : Value) : (vs.setIfInBounds 1 x).setIfInBounds 1 y = vs.setIfInBounds 1 y := by
  cases vs with | mk l => simp
section
variable {M : Model} {A : Around} {E : Value → Shared → Prop} {s : Shared} {base : Heap} {env : Env} {outer : List Env} {L e : Addr} {oe : Obj} {vs : Array Value} {Q : Unit → Shared → Prop}
/-- a traceback's new head -/
theorem entry_ex {head x : Value} {hadNext : Bool} (hfr : A.frames = some (env :: outer)) (hl : s.heap.FunFrames base (env :: outer)) (hf : env.frame = some L)
    (he : s.heap.get? e = some (exAt oe vs x)) (hkb : base.StaysIn s.heap) (hen : base.get? e = none) (hsz : 1 < vs.size)
    (h : ∀ h', Fly base (env :: outer) e oe vs (rawInt L) h' → s.heap.UpToSlots h' → Q () { s with heap := h' }) :
    wpAny M A (do let a ← frameOf env; let pl ← entryPlaceOf L hadNext; let b ← EntryCells.newEntry head a .none (rawInt L) .none pl; setField (.ref e) 1 b) Q E s := by
  have hene : e ∉ (env :: outer).filterMap (·.frame) := fun hm => by
    obtain ⟨_, o, ho, hnf⟩ := hl.mem hm
    rw [he] at ho
    cases ho
    exact hnf _ rfl
  have hs1 : 1 < (vs.setIfInBounds 1 x).size := by simpa using hsz
  refine wpAny_bind (wpAny_frameOf_fun hfr hl hf fun h₁ hs₁ => wpAny_bind (wpAny_entryPlaceOf fun pl hpl => ?_))
  unfold EntryCells.newEntry newFields
  refine wpAny_bind (wpAny_newObj_type ?_ (hpl.sizeOk5 _ _ _ _ _))
  have he₁ : h₁.get? e = some (exAt oe vs x) := (hs₁.2.1 e hene).trans he
  have kb₁ : base.StaysIn h₁ := fun b o hbo => (hs₁.2.1 b fun hm => by rw [(hl.mem hm).1] at hbo; cases hbo).trans (hkb b o hbo)
  generalize hTo : ({ cls := .type "traceback", dict := none, data := .fields ([head, .ref L, .none, rawInt L, .none] ++ (if pl.isEmpty then List.replicate 6 Value.none else pl)).toArray } : Obj) = oT
  have hTd : oT.data = .fields ([head, .ref L, .none, rawInt L, .none] ++ (if pl.isEmpty then List.replicate 6 Value.none else pl)).toArray := by rw [← hTo]
  have hTf : oT.isFreed = false := by rw [← hTo]; rfl
  refine wpAny_setField (Heap.get?_push_of_some oT he₁) rfl hs1 (h _ ?_ ?_)
  · have hTe : h₁.objs.size ≠ e := Nat.ne_of_gt (Heap.lt_size he₁)
    have keep : ∀ b o, b ≠ e → h₁.get? b = some o → ((h₁.push oT).update e (Obj.mapFields (·.setIfInBounds 1 (Value.ref h₁.objs.size)))).get? b = some o := fun b o hb ho => by
      rw [Heap.get?_update_other _ _ (Ne.symm hb)]; exact Heap.get?_push_of_some _ ho
    refine ⟨fun b o hbo => keep b o (fun q => by rw [q, hen] at hbo; cases hbo) (kb₁ b o hbo), hen, hl.of_keeps fun b o hb hnf => ?_, ⟨h₁.objs.size, oT, _, ?_, kb₁.fresh, hTe, ?_, hTd, by simp⟩⟩
    · obtain ⟨sl, hsl⟩ := hs₁.2.2 b o hb
      exact ⟨_, keep b _ (fun q => by rw [q, he] at hb; cases hb; exact hnf _ rfl) hsl, rfl⟩
    · have := Heap.get?_update_self (Obj.mapFields (·.setIfInBounds 1 (Value.ref h₁.objs.size))) (Heap.get?_push_of_some oT he₁) rfl
      rw [this]
      show some { oe with data := .fields ((vs.setIfInBounds 1 x).setIfInBounds 1 (.ref h₁.objs.size)) } = _
      rw [set_set]
    · rw [Heap.get?_update_other _ _ (Ne.symm hTe)]
      exact Heap.get?_push_size h₁ hTf
  · intro b o hb hnf
    obtain ⟨sl, hsl⟩ := hs₁.2.2 b o hb
    refine ⟨sl, ?_⟩
    rw [Heap.get?_update_other _ _ (fun q => by rw [← q, he] at hb; cases hb; exact hnf _ rfl)]
    exact Heap.get?_push_of_some _ hsl
/-- the flight's mark is set anew -/
theorem flight_ex {l : List Env} {fl : Value} {f : Option Addr} (hsz : 1 < vs.size) (x : Fly base l e oe vs fl s.heap)
    (h : ∀ h', Fly base l e oe vs (f.elim .none fun a => rawInt a) h' → s.heap.UpToSlots h' → Q () { s with heap := h' }) : wpAny M A (setFlight (.ref e) f) Q E s := by
  obtain ⟨k1, k2, k3, T, oT, ts, he, hnT, hTe, hT, hdT, h3⟩ := x
  have hsz3 : 3 < ts.size := (Array.getElem?_eq_some_iff.mp h3).1
  unfold setFlight
  refine wpAny_bind (wpAny_field he rfl (x := .ref T) (by simp [hsz]) ?_)
  rw [if_pos (show (Value.ref T != Value.none) = true from by simp)]
  refine wpAny_setField hT hdT hsz3 (h _ ?_ ?_)
  · have other : ∀ b, b ≠ T → (s.heap.update T (Obj.mapFields (·.setIfInBounds 3 (f.elim Value.none fun a => rawInt a)))).get? b = s.heap.get? b := fun b hb => Heap.get?_update_other _ _ (Ne.symm hb)
    refine ⟨fun b o hbo => (other b fun q => by rw [q, hnT] at hbo; cases hbo).trans (k1 b o hbo), k2, k3.of_keeps fun b o hb hnf => ⟨o, (other b fun q => by rw [q, hT] at hb; cases hb; exact hnf _ hdT).trans hb, rfl⟩,
      ⟨T, _, _, (other e (Ne.symm hTe)).trans he, hnT, hTe, Heap.get?_update_self _ hT (Obj.isFreed_of_fields (Obj.data_mapFields hdT _)), Obj.data_mapFields hdT _, by simp [hsz3]⟩⟩
  · intro b o hb hnf
    exact ⟨o.slots, (Heap.get?_update_other _ _ fun q => by rw [← q, hT] at hb; cases hb; exact hnf _ hdT).trans hb⟩
/-- the frame in which the exception is raised notes it -/
theorem note_first (hfr : A.frames = some (env :: outer)) (hl : s.heap.FunFrames base (env :: outer)) (hf : env.frame = some L)
    (he : s.heap.get? e = some (exAt oe vs .none)) (hkb : base.StaysIn s.heap) (hen : base.get? e = none) (hsz : 1 < vs.size)
    (h : ∀ h', Fly base (env :: outer) e oe vs (rawInt L) h' → s.heap.UpToSlots h' → Q () { s with heap := h' }) : wpAny M A (noteFrame (.ref e) env) Q E s := by
  unfold noteFrame
  simp only [hf]
  refine wpAny_bind (wpAny_field he rfl (x := .none) (by simp [hsz]) ?_)
  rw [if_neg (by decide)]
  exact entry_ex hfr hl hf he hkb hen hsz h
/-- a further frame notes it -/
theorem note_next (hfr : A.frames = some (env :: outer)) (hf : env.frame = some L) (hsz : 1 < vs.size) (x : Fly base (env :: outer) e oe vs .none s.heap)
    (h : ∀ h', Fly base (env :: outer) e oe vs (rawInt L) h' → s.heap.UpToSlots h' → Q () { s with heap := h' }) : wpAny M A (noteFrame (.ref e) env) Q E s := by
  obtain ⟨k1, k2, k3, T, oT, ts, he, hnT, hTe, hT, hdT, h3⟩ := x
  unfold noteFrame
  simp only [hf]
  refine wpAny_bind (wpAny_field he rfl (x := .ref T) (by simp [hsz]) ?_)
  rw [if_pos (show (Value.ref T != Value.none) = true from by simp)]
  refine wpAny_bind (wpAny_field hT hdT h3 ?_)
  rw [if_neg (show ¬ ((Value.none == rawInt L) = true) from by simp [rawInt])]
  refine wpAny_bind (wpAny_setField hT hdT (Array.getElem?_eq_some_iff.mp h3).1 ?_)
  have other : ∀ b, b ≠ T → (s.heap.update T (Obj.mapFields (·.setIfInBounds 3 Value.none))).get? b = s.heap.get? b := fun b hb => Heap.get?_update_other _ _ (Ne.symm hb)
  have nr : ∀ b o, s.heap.get? b = some o → (∀ vs, o.data ≠ .fields vs) → b ≠ T := fun b o hb hnf q => by rw [q, hT] at hb; cases hb; exact hnf _ hdT
  refine entry_ex hfr (k3.of_keeps fun b o hb hnf => ⟨o, (other b (nr b o hb hnf)).trans hb, rfl⟩) hf ((other e (Ne.symm hTe)).trans he) (fun b o hbo => (other b fun q => by rw [q, hnT] at hbo; cases hbo).trans (k1 b o hbo)) k2 hsz
    fun h' f u => h h' f fun b o hb hnf => u b o ((other b (nr b o hb hnf)).trans hb) hnf
/-- the frame that has noted it notes it no more -/
theorem note_again {l : List Env} (hf : env.frame = some L) (hsz : 1 < vs.size) (x : Fly base l e oe vs (rawInt L) s.heap) (h : Q () s) : wpAny M A (noteFrame (.ref e) env) Q E s := by
  obtain ⟨k1, k2, k3, T, oT, ts, he, hnT, hTe, hT, hdT, h3⟩ := x
  unfold noteFrame
  simp only [hf]
  refine wpAny_bind (wpAny_field he rfl (x := .ref T) (by simp [hsz]) ?_)
  rw [if_pos (show (Value.ref T != Value.none) = true from by simp)]
  refine wpAny_bind (wpAny_field hT hdT h3 ?_)
  rw [if_pos (show (rawInt L == rawInt L) = true from by simp)]
  exact wpAny_pure h
theorem Fly.out {l : List Env} {fl : Value} {h : Heap} (x : Fly base (env :: l) e oe vs fl h) : Fly base l e oe vs fl h := ⟨x.stays, x.new, x.frames.2.2, x.tr⟩
/-- it leaves the frame where it was raised -/
theorem leave_first (hfr : A.frames = some (env :: outer)) (hl : s.heap.FunFrames base (env :: outer)) (hf : env.frame = some L)
    (he : s.heap.get? e = some (exAt oe vs .none)) (hkb : base.StaysIn s.heap) (hen : base.get? e = none) (hsz : 1 < vs.size)
    (h : ∀ h', Fly base outer e oe vs .none h' → s.heap.UpToSlots h' → Q () { s with heap := h' }) : wpAny M A (leaving env (.ref e)) Q E s := by
  unfold leaving
  refine wpAny_bind (note_first hfr hl hf he hkb hen hsz fun h₁ x u => ?_)
  exact flight_ex (s := { s with heap := h₁ }) (f := none) hsz x fun h₂ x₂ u₂ => h h₂ x₂.out (u.trans u₂)
/-- it leaves a further frame -/
theorem leave_next (hfr : A.frames = some (env :: outer)) (hf : env.frame = some L) (hsz : 1 < vs.size) (x : Fly base (env :: outer) e oe vs .none s.heap)
    (h : ∀ h', Fly base outer e oe vs .none h' → s.heap.UpToSlots h' → Q () { s with heap := h' }) : wpAny M A (leaving env (.ref e)) Q E s := by
  unfold leaving
  refine wpAny_bind (note_next hfr hf hsz x fun h₁ x u => ?_)
  exact flight_ex (s := { s with heap := h₁ }) (f := none) hsz x fun h₂ x₂ u₂ => h h₂ x₂.out (u.trans u₂)
/-- it leaves a frame that has noted it -/
theorem leave_noted (hf : env.frame = some L) (hsz : 1 < vs.size) (x : Fly base (env :: outer) e oe vs (rawInt L) s.heap)
    (h : ∀ h', Fly base outer e oe vs .none h' → s.heap.UpToSlots h' → Q () { s with heap := h' }) : wpAny M A (leaving env (.ref e)) Q E s := by
  unfold leaving
  refine wpAny_bind (note_again hf hsz x ?_)
  exact flight_ex (f := none) hsz x fun h₂ x₂ u₂ => h h₂ x₂.out u₂
end
end
/-! ExcB -/
section
set_option maxRecDepth 100000
/-! an instance of an own exception class is made; its __init__ may stand anywhere among its bases -/
section
variable {prog : Program} {w : World} {A : Around} {E : Value → Shared → Prop} {h : Heap} {g : Array GenState} {d : Drawn} {t : Nat} {os : OsState}
variable {nm q : Str} {C N : Addr} {bs bm bmB : List Value} {hdct : Bool} {sn : List Str} {sub : List Value} {ab : Bool} {col : Option Bool} {dd : Option Addr} {k0 k1 k2 k3 k5 : Option Value} {B newId initId : String}
theorem check_new (F : ExcBaseFacts B newId initId bmB) (hB : bm.contains (.type B) = true) {rest : List Value} {Q : Unit → Shared → Prop} (hC : h.get? C = some (excClassObj nm q C N bs bm hdct sn sub ab col dd k0 k1 k2 k3 k5 newId))
    (hq : Q () ⟨h, g, d, t, os⟩) : wpAny (model prog w) A (checkBuiltinCall newId ⟨.ref C :: rest, []⟩) Q E ⟨h, g, d, t, os⟩ := by
  have hcont : (Value.ref C :: bm).contains (.type B) = true := by rw [List.contains_cons, hB, Bool.or_true]
  have hstar := F.noStar
  simp only [checkBuiltinCall, F.newKind, F.newSplit, F.newRow]
  repeat (first | refine wpAny_loadPart_at hC ?_ | (refine wpAny_isSubtype_exc hC ?_; rw [hcont]) | refine wpAny_staticBase_exc hC ?_ | refine wpAny_madeBy_exc hC ?_ | simp only [bne_self_eq_false, Bool.false_eq_true, if_false] | wp_step)
  exact hq
theorem new_ex {R : Result → Shared → Prop} (F : ExcBaseFacts B newId initId bmB) (hB : bm.contains (.type B) = true) (hAt : bm.contains (.type "AttributeError") = false) (hNm : bm.contains (.type "NameError") = false) {rest : List Value}
    (hC : h.get? C = some (excClassObj nm q C N bs bm hdct sn sub ab col dd k0 k1 k2 k3 k5 newId))
    (hq : R (.ok (.ret (.ref (h.objs.size + 1)))) ⟨(h.push { cls := .type "tuple", data := .seq rest.toArray }).push { cls := .ref C, data := .fields #[.ref h.objs.size, .none, .none, .none, .bool false, .none] }, g, d, t, os⟩) (hrest : rest.length ≤ sizeLine) :
    codeAny (model prog w) A (.builtin newId ⟨.ref C :: rest, []⟩) R ⟨h, g, d, t, os⟩ := by
  have hends := F.ends
  have hcB : (Value.ref C :: bm).contains (.type B) = true := by rw [List.contains_cons, hB, Bool.or_true]
  have hcA : (Value.ref C :: bm).contains (.type "AttributeError") = false := by rw [List.contains_cons, hAt]; rfl
  have hcN : (Value.ref C :: bm).contains (.type "NameError") = false := by rw [List.contains_cons, hNm]; rfl
  refine codeAny_builtinAt F.entry ?_
  unfold Builtin.«BaseException.__new__»
  refine _root_.PySem.wpAt_bind ?_
  show _root_.PySem.wpAt _ _ _ (stack >>= _) _ _ _
  refine _root_.PySem.wpAt_bind (_root_.PySem.wpAt_stack fun p below => _root_.PySem.wpAt_of_wpAny ?_)
  wp_walk
  refine _root_.PySem.wpAt_of_wpAny ?_
  rw [F.owner]
  repeat (first | with_reducible refine wpAny_madeHere_exc F.canon hC ?_ | with_reducible refine wpAny_loadPart_at hC ?_ | (with_reducible refine wpAny_isSubtype_exc hC ?_; first | rw [hcB] | rw [hcA] | rw [hcN]) | wp_step)
  show R _ _
  rw [Heap.size_push]
  exact hq
/-- a class's call: the instance is made, then its __init__ is called -/
theorem call_ex (F : ExcBaseFacts B newId initId bmB) (hB : bm.contains (.type B) = true) (hAt : bm.contains (.type "AttributeError") = false) (hNm : bm.contains (.type "NameError") = false) {rest : List Value} {fI : Addr} {oI : Obj} {Q : Value → Shared → Prop}
    (hC : h.get? C = some (excClassObj nm q C N bs bm hdct sn sub ab col dd k0 k1 k2 k3 k5 newId)) (hi : Looks (model prog w) h (typeLookup (.ref C) "__init__") (some (.ref fI))) (hfI : h.get? fI = some oI) (hfc : oI.cls = .type "function") (hrest : rest.length ≤ sizeLine)
    (hq : ∀ h' e, Heap.MadeExcOf h h' e (.ref C) rest →
      wpAny (model prog w) (A.under (.builtin "type.__call__" ⟨.ref C :: rest, []⟩)) (call (.ref fI) (.ref e :: rest)) (fun r s' => r = .none ∧ Q (.ref e) s') E ⟨h', g, d, t, os⟩) :
    wpAny (model prog w) A (call (.ref C) rest) Q E ⟨h, g, d, t, os⟩ := by
  have f1 := tc_lookup
  have f2 := tc_bind (.ref C)
  have hT : (⟨h, g, d, t, os⟩ : Shared).TypeIs (.ref C) "type" := ⟨_, hC, rfl⟩
  refine wpAny_call (codeAny_of_tree ?_)
  show wpAny _ _ (callAny (.ref C) _) _ _ _
  repeat (any_goals (first | assumption | with_reducible refine wpAny_loadPart_at hC ?_ | wp_step))
  refine ⟨rfl, ?_⟩
  refine codeAny_call_builtin_at (Code.quiet_builtin _ (by decide +kernel)) entry_typeCall (wpAny_check_type_call_sub hC ?_)
  repeat (first | with_reducible refine wpAny_loadPart_at hC ?_ | with_reducible refine wpAny_madeBy_exc hC ?_ | wp_step)
  refine codeAny_call_builtin_code (Code.quiet_builtin _ F.quiet) (check_new F hB hC ?_)
  refine new_ex F hB hAt hNm hC ?_ hrest
  show wpAny _ _ _ _ _ _
  have kp : ∀ b o, h.get? b = some o → ((h.push { cls := .type "tuple", data := .seq rest.toArray }).push { cls := .ref C, data := .fields #[.ref h.objs.size, .none, .none, .none, .bool false, .none] }).get? b = some o :=
    fun b o e => Heap.get?_push_of_some _ (Heap.get?_push_of_some _ e)
  have hC₁ := kp _ _ hC
  have hget : ((h.push { cls := .type "tuple", data := .seq rest.toArray }).push
      { cls := .ref C, data := .fields #[.ref h.objs.size, .none, .none, .none, .bool false, .none] }).get? (h.objs.size + 1) = some
      { cls := .ref C, data := .fields #[.ref h.objs.size, .none, .none, .none, .bool false, .none] } := by heap_get
  have hcC : (Value.ref C :: bm).contains (.ref C) = true := by simp
  unfold isInstance
  repeat (first | with_reducible refine wpAny_loadPart_at hget ?_ | (with_reducible refine wpAny_isSubtype_exc hC₁ ?_; rw [hcC]) | wp_step)
  dsimp only
  refine wpAny_isSubtype_exc hC₁ ?_
  rw [hcC]
  repeat (first | with_reducible refine wpAny_loadPart_at hget ?_ | wp_step)
  show wpAny _ _ (typeLookup (.ref C) _) _ _ _
  refine hi _ _ _ _ kp ?_
  refine wpAny_holding (wpAny_bind ?_)
  unfold bindSpecial
  refine wpAny_bind (wpAny_typeOf (T := "function") ⟨_, kp _ _ hfI, hfc⟩ ?_)
  rw [if_pos (by decide)]
  refine wpAny_pure (wpAny_bind (wpAny_mono (hq _ (h.objs.size + 1) ⟨kp, Heap.get?_none_of_le (Nat.le_succ _), h.objs.size, hget, Heap.get?_none_of_le (Nat.le_refl _), ?_⟩) (fun r s' hr => ?_) fun _ _ x => x))
  · exact Heap.get?_push_of_some _ (Heap.get?_push_at rfl rfl)
  · obtain ⟨rfl, hQ⟩ := hr
    wp_walk
    exact hQ
end
end
/-! ExcC -/
section
set_option maxRecDepth 100000
/-! super().__init__ where it leads to the built-in one -/
theorem entry_wg : entryFor table "wrapper_descriptor.__get__" = some Builtin.«wrapper_descriptor.__get__» := entryFor_of_tree (by kernel_rfl)
theorem plain_wg : plainId "wrapper_descriptor.__get__" = true := by decide +kernel
theorem check_wg (a b : Addr) : checkBuiltinCall "wrapper_descriptor.__get__" ⟨[.builtin "Exception.__init__", .ref a, .ref b], []⟩ = pure () := by kernel_rfl
theorem type_wg : typeOf (.builtin "Exception.__init__") = pure (.type "wrapper_descriptor") := by kernel_rfl
theorem look_wg : typeLookup (.type "wrapper_descriptor") "__get__" = pure (some (.builtin "wrapper_descriptor.__get__")) := by rw [typeLookup_type, builtinLookup_eq_fast]; kernel_rfl
theorem own_ei : classOwn (.type "Exception") "__init__" = pure (some (.builtin "Exception.__init__")) := by kernel_rfl
theorem slot_wg : Slot "wrapper_descriptor" "__get__" "wrapper_descriptor.__get__" := .of (owner := "wrapper_descriptor") (n := "__get__") look_wg (by decide +kernel) (by decide +kernel) (by decide +kernel)
  (by first | exact .inl (by decide +kernel) | exact .inr (by decide +kernel)) (by rw [isSubtype_type]; kernel_rfl)
theorem args_wg (a b c : Value) : argsOk "wrapper_descriptor.__get__" ⟨[a, b, c], []⟩ := by unfold argsOk; kernel_rfl
section
variable {nm q : Str} {C N : Addr} {bs bm : List Value} {hdct : Bool} {sn : List Str} {sub : List Value} {ab : Bool} {col : Option Bool} {dd : Option Addr} {k0 k1 k2 k3 k5 : Option Value} {newId : String}
theorem bound_ei {M : Model} {A : Around} {E : Value → Shared → Prop} {h : Heap} {g : Array GenState} {d : Drawn} {t : Nat} {os : OsState} {Q : Unit → Shared → Prop} {x : Addr} {ox : Obj} (v : Value)
    (hC : h.get? C = some (excClassObj nm q C N bs bm hdct sn sub ab col dd k0 k1 k2 k3 k5 newId)) (he : h.get? x = some ox) (hcls : ox.cls = .ref C) (hq : Q () ⟨h, g, d, t, os⟩) : wpAny M A (checkBoundCall "Exception.__init__" ⟨[.ref x, v], []⟩) Q E ⟨h, g, d, t, os⟩ := by
  have F := PySem.F.excBase_Exception
  have hshort := F.noStar
  simp only [checkBoundCall, F.initKind, F.initRow]
  rw [if_pos (by decide)]
  unfold Bind.checkArgs
  repeat (first | (with_reducible refine wpAny_loadPart_at he ?_; rw [hcls]) | with_reducible refine wpAny_loadPart_at hC ?_ | wp_step)
  exact hq
end
theorem quiet_ei (a : Addr) (v : Value) : (Code.builtin "Exception.__init__" ⟨[.ref a, v], []⟩).quiet = true := Code.quiet_builtin _ (by decide +kernel)
section
variable {prog : Program} {w : World} {A : Around} {E : Value → Shared → Prop} {h : Heap} {g : Array GenState} {d : Drawn} {t : Nat} {os : OsState}
theorem ga_super {so D x C : Addr} {ox : Obj} {l₀ l : List Value} {tk : Tok} {Q : PySem.Fin → Shared → Prop}
    (hso : h.get? so = some { cls := .type "super", dict := none, data := .fields #[.ref D, .ref x, .ref C], slots := #[] }) (hno : Looks (model prog w) h (opaqueClassAbove (.ref C)) none)
    (hC : Looks (model prog w) h (mroOf (.ref C)) l₀) (hl : (l₀.dropWhile (· != .ref D)).drop 1 = .type "Exception" :: l) (hx : h.get? x = some ox) (hxc : ox.cls = .ref C) (hsub : Looks (model prog w) h (isSubtype (.ref C) (.type "Exception")) true) (hxC : x ≠ C)
    (hq : Q (.done (.ret (.ref h.objs.size))) ⟨h.push { cls := .type "method-wrapper", data := .fields #[.builtin "Exception.__init__", .ref x] }, g, d, t, os⟩) :
    wpAny (model prog w) A (Builtin.«super.__getattribute__» ⟨[.ref so, .str "__init__" tk], []⟩) Q E ⟨h, g, d, t, os⟩ := by
  have hne : (Value.ref x == Value.ref C) = false := by simp [hxC]
  have hn : (("__init__" : Str) == ("__class__" : Str)) = false := by decide +kernel
  have hdt : ({ cls := .type "super", dict := none, data := .fields #[.ref D, .ref x, .ref C], slots := #[] } : Obj).data = .fields #[.ref D, .ref x, .ref C] := rfl
  have f0 : (#[.ref D, .ref x, .ref C] : Array Value)[0]? = some (.ref D) := rfl
  have f1 : (#[.ref D, .ref x, .ref C] : Array Value)[1]? = some (.ref x) := rfl
  have f2 : (#[.ref D, .ref x, .ref C] : Array Value)[2]? = some (.ref C) := rfl
  have hcut : ".".intercalate ("Exception.__init__".cutAt '.').dropLast = "Exception" := by decide +kernel
  unfold Builtin.«super.__getattribute__»
  repeat (first
    | (with_reducible refine wpAny_field hso hdt f0 ?_) | (with_reducible refine wpAny_field hso hdt f1 ?_) | (with_reducible refine wpAny_field hso hdt f2 ?_)
    | (with_reducible refine ks_wpAny_notOpaque hno ?_)
    | (with_reducible refine Looks.at hC ?_; rw [hl])
    | (rw [List.forIn_cons])
    | (with_reducible refine wpAny_of_eq own_ei ?_)
    | (with_reducible refine wpAny_of_eq type_wg ?_)
    | (with_reducible refine wpAny_of_eq look_wg ?_)
    | (with_reducible refine codeAny_call_builtin plain_wg entry_wg (wpAny_of_eq (check_wg _ _) ?_))
    | (with_reducible refine wpAny_loadPart_at hx ?_; rw [hxc])
    | (with_reducible refine ⟨_, rfl, ?_⟩)
    | (simp only [hn, hne, Bool.or_false, Bool.false_eq_true, if_false])
    | wp_step
    | dsimp only)

  rw [hcut]
  refine Looks.at hsub ?_
  simp only [Bool.not_true, Bool.false_eq_true, if_false]
  refine wpAny_pure (wpAny_bind ?_)
  unfold newFields
  refine wpAny_newObj_type ?_
  refine wpAny_pure ?_
  show wpAny _ _ (ret _ >>= _) _ _ _
  exact wpAny_bind (wpAny_pure (wpAny_pure (wpAny_pure (wpAny_pure hq))))
theorem getMethod_super {so D x C : Addr} {ox : Obj} {l₀ l : List Value} {pl : Sem Bool} {Q : Value × List Value → Shared → Prop}
    (hso : h.get? so = some { cls := .type "super", dict := none, data := .fields #[.ref D, .ref x, .ref C], slots := #[] }) (hno : Looks (model prog w) h (opaqueClassAbove (.ref C)) none)
    (hC : Looks (model prog w) h (mroOf (.ref C)) l₀) (hl : (l₀.dropWhile (· != .ref D)).drop 1 = .type "Exception" :: l) (hx : h.get? x = some ox) (hxc : ox.cls = .ref C) (hsub : Looks (model prog w) h (isSubtype (.ref C) (.type "Exception")) true) (hxC : x ≠ C)
    (hq : Q (.ref h.objs.size, []) ⟨h.push { cls := .type "method-wrapper", data := .fields #[.builtin "Exception.__init__", .ref x] }, g, d, t + 1, os⟩) :
    wpAny (model prog w) A (getMethod (.ref so) "__init__" pl) Q E ⟨h, g, d, t, os⟩ := by
  have hlk := F.ks_slot_super_ga.lookup
  have hcan := F.ks_canon_super_ga
  have hT : ∀ t', (⟨h, g, d, t', os⟩ : Shared).TypeIs (.ref so) "super" := fun _ => ⟨_, hso, rfl⟩
  unfold getMethod
  refine wpAny_bind (wpAny_specialOf (hT _) hlk ?_)
  show wpAny _ _ (if (Manifest.canonical "super.__getattribute__" != "object.__getattribute__") = true then _ else _) _ _ _
  rw [if_pos hcan]
  unfold getAttr getAttrBy
  refine wpAny_bind (wpAny_bind (wpAny_mkText (wpAny_holding (wpAny_bind (wpAny_typeOf (hT _) (wpAny_bind (wpAny_of_eq hlk ?_)))))))
  show wpAny _ _ (getAttrByItsOwn (.ref so) (.str _ t) (.type "super") (.builtin "super.__getattribute__") true false) _ _ _
  unfold getAttrByItsOwn hookBefore callGetattribute boundAndCalled
  refine wpAny_bind (wpAny_of_eq (show (if onTheHeap (.type "super") then typeLookup (.type "super") "__getattr__" else pure none) = pure none from rfl) ?_)
  refine wpAny_bind (wpAny_attempt (wpAny_holding ?_))
  show wpAny _ _ (bindSpecial (.builtin "super.__getattribute__") (.ref so) >>= _) _ _ _
  refine wpAny_bind (wpAny_of_eq (F.ks_slot_super_ga.bind _) ?_)
  refine wpAny_mono (Q := fun v s' => v = .ref h.objs.size ∧ s' = ⟨h.push { cls := .type "method-wrapper", data := .fields #[.builtin "Exception.__init__", .ref x] }, g, d, t + 1, os⟩) (E := fun _ _ => False)
    (wpAny_call_entry F.ks_slot_super_ga (hT _) F.ks_entry_super_ga (ga_super hso hno hC hl hx hxc hsub hxC ⟨_, rfl, rfl, rfl⟩) (F.ks_gaArgs_super _ _)) (fun v s' hv => ?_) fun _ _ z => z.elim
  obtain ⟨rfl, rfl⟩ := hv
  exact wpAny_pure (wpAny_pure hq)
/-- the bound built-in __init__ lays the args anew -/
theorem call_bound {nm q : Str} {C N : Addr} {bs bm : List Value} {hdct : Bool} {sn : List Str} {sub : List Value} {ab : Bool} {col : Option Bool} {dd : Option Addr} {k0 k1 k2 k3 k5 : Option Value} {newId : String} {mw x t0 : Addr} {dx : Option Addr} {v : Value} {Q : Value → Shared → Prop}
    (hC : h.get? C = some (excClassObj nm q C N bs bm hdct sn sub ab col dd k0 k1 k2 k3 k5 newId))
    (hmw : h.get? mw = some { cls := .type "method-wrapper", data := .fields #[.builtin "Exception.__init__", .ref x] }) (hx : h.get? x = some { cls := .ref C, dict := dx, data := .fields #[.ref t0, .none, .none, .none, .bool false, .none] })
    (hq : ∀ h', h'.get? x = some { cls := .ref C, dict := dx, data := .fields #[.ref h.objs.size, .none, .none, .none, .bool false, .none] } → (∀ b o, b ≠ x → h.get? b = some o → h'.get? b = some o) → Q .none ⟨h', g, d, t, os⟩) :
    wpAny (model prog w) A (call (.ref mw) [v]) Q E ⟨h, g, d, t, os⟩ := by
  have hlx : x ≠ h.objs.size := Nat.ne_of_lt (Heap.lt_size hx)
  refine wpAny_call (codeAny_of_tree ?_)
  show wpAny _ A.in1 (callAny (.ref mw) _) _ _ _
  unfold callAny
  refine wpAny_bind (wpAny_load hmw ?_)
  dsimp only
  rw [if_pos (by decide)]
  show wpAny _ _ (if (Value.type "method-wrapper" != Value.type "method") = true then _ else _) _ _ _
  rw [if_pos (by decide)]
  refine wpAny_bind (bound_ei v hC hx rfl (wpAny_pure ⟨quiet_ei x v, codeAny_builtin PySem.F.excBase_Exception.initEntry ?_⟩))
  rw [Around.under_plainId PySem.F.excBase_Exception.init.plain _]
  unfold Builtin.«BaseException.__init__»
  dsimp only
  rw [if_neg (by decide)]
  wp_walk
  refine hq _ ?_ ?_
  · rw [Heap.get?_update_self _ (Heap.get?_push_of_some _ hx) rfl]
    rfl
  · intro b o hb e
    rw [Heap.get?_update_other _ _ (Ne.symm hb)]
    exact Heap.get?_push_of_some _ e
end
end
/-! ExcD -/
section
open PySem.Builtin PySem.Builtin.ObjectAttr PySem.Builtin.Getset_descriptor
set_option maxRecDepth 100000
/-! an attribute stored upon an own exception -/
def isRef : Value → Bool
  | .ref _ => true
  | _ => false
theorem isRef_ref {v : Value} (h : isRef v = true) : ∃ c, v = .ref c := by cases v <;> first | exact ⟨_, rfl⟩ | cases h
abbrev excBases : List Value := [.type "Exception", .type "BaseException", .type "object"]
def excMro : List Value → Bool
  | [] => false
  | v :: r => (isRef v && excMro r) || decide (v :: r = excBases)
theorem excMro_cases {v : Value} {r : List Value} (e : excMro (v :: r) = true) : (∃ c, v = .ref c ∧ excMro r = true) ∨ v :: r = excBases := by
  have e : ((isRef v && excMro r) || decide (v :: r = excBases)) = true := e
  cases q : isRef v && excMro r with
  | true => have q' := Bool.and_eq_true_iff.mp q; exact (isRef_ref q'.1).elim fun c hc => .inl ⟨c, hc, q'.2⟩
  | false => rw [q, Bool.false_or] at e; exact .inr (of_decide_eq_true e)
theorem refuse_exc0 (self : Value) : refuseLoop self "__setattr__" [.type "Exception", .type "BaseException", .type "object"] = pure () := by kernel_rfl
theorem refuse_exc (self : Value) {l : List Value} (e : excMro l = true) : refuseLoop self "__setattr__" l = pure () := by
  induction l with
  | nil => cases e
  | cons v r ih =>
    rcases excMro_cases e with ⟨c, rfl, h⟩ | h
    · rw [refuseLoop_ref]; exact ih h
    · rw [h]; exact refuse_exc0 self
theorem excMro_has {l : List Value} (e : excMro l = true) : l.contains (.type "object") = true := by
  induction l with
  | nil => cases e
  | cons v r ih =>
    rcases excMro_cases e with ⟨c, rfl, h⟩ | h
    · rw [List.contains_cons, ih h, Bool.or_true]
    · rw [h]; decide
def excOver (K : Frag) (C : Addr) : Bool := (clsIn K C).any fun cd => excMro cd.mro && cd.hasDict
section
variable {prog : Program} {w : World} {A : Around} {E : Value → Shared → Prop} {s : Shared} {K : Frag} {x C : Addr} {ox : Obj} {od : Option Obj} {name : Str} {v : Value}
theorem osa_exc {tk : Tok} {R : Result → Shared → Prop} (X : K.In s.heap) (I : InstAt s.heap x ox C od) (hp : excOver K C = true) (ht : takerIn K C name = some none)
    (h : ∀ b, wpAny (model prog w) A.in1 (storeInOwnDict (.ref x) (.ref C) (.str name tk) name v b)
      (fun fin s' => match fin with | .done f => R (.ok f) s' | .again c' => c'.quiet = true ∧ codeAny (model prog w) A c' R s') (fun e s' => R (.error e) s') s) :
    codeAny (model prog w) A (.call (.builtin "object.__setattr__") ⟨[.ref x, .str name tk, v], []⟩) R s := by
  have SF := PySem.F.store_object
  obtain ⟨cd, hc, ho'⟩ := any_some hp
  have ho : excMro cd.mro = true := (Bool.and_eq_true_iff.mp ho').1
  have ne : cd.mro.isEmpty = false := by cases q : cd.mro with | nil => rw [q] at ho; cases ho | cons _ _ => rfl
  have sub : Looks (model prog w) s.heap (isInstance (.ref x) (.type "object")) true := I.type.andThen (looks_mroIn X (by unfold mroIn; rw [hc, Option.bind_some, if_neg (by rw [ne]; decide), excMro_has ho]))
  refine codeAny_call_builtin SF.slot.plain SF.entry (@check_slot (model prog w) _ _ s "object.__setattr__" "object" "__setattr__" (.ref x) [.str name tk, v] [] _ SF.kind SF.split sub (SF.args (.ref x) (.str name tk) v) ?_)
  obtain ⟨attr, ha, hr⟩ := Option.bind_eq_some_iff.mp ht
  have hm : Looks (model prog w) s.heap (mroOf (.ref C)) cd.mro := (looks_clsIn X hc).andThen .now
  have L3 : Looks (model prog w) s.heap (storeTaker? attr) none := by
    cases attr with
    | none => exact .now
    | some a =>
      obtain ⟨b, hb, e⟩ := Option.map_eq_some_iff.mp hr
      refine (looks_takesIn X hb).andThen ?_
      cases b
      · exact .now
      · cases e
  rw [osa_eq, refuse_eq]
  refine wpAny_bind (wpAny_bind (I.type.here (wpAny_bind (hm.here ?_))))
  rw [refuse_exc _ ho]
  refine wpAny_pure (wpAny_bind (I.type.here (wpAny_bind ((looks_findIn X ha).here (wpAny_bind (L3.here ?_))))))
  exact h _
/-- the first one: the instance's dict is made -/
theorem set_first {Q : Unit → Shared → Prop} {vs : Array Value} (X : K.In s.heap) (hx : s.heap.get? x = some { cls := .ref C, dict := none, data := .fields vs }) (hs : findIn K (.ref C) "__setattr__" = some (some (.builtin "object.__setattr__"))) (hp : excOver K C = true) (ht : takerIn K C name = some none)
    (h : ∀ d h' tk ha, s.heap.get? d = none → d ≠ x → h'.get? x = some { cls := .ref C, dict := some d, data := .fields vs } → h'.get? d = some (dictOf [⟨ha, .str name tk, v⟩] 1) → (∀ b o, b ≠ x → s.heap.get? b = some o → h'.get? b = some o) → Q () { s with heap := h', toks := s.toks + 2 }) :
    wpAny (model prog w) A (setAttr (.ref x) name v) Q E s := by
  have I : InstAt s.heap x { cls := .ref C, dict := none, data := .fields vs } C none := ⟨hx, rfl, rfl, trivial⟩
  refine set_plain X I hs (osa_exc (s := { s with toks := s.toks + 1 }) X I hp ht fun b => ?_)
  obtain ⟨cd, hc, ho'⟩ := any_some hp
  have hd' : cd.hasDict = true := (Bool.and_eq_true_iff.mp ho').2
  have hlx : x < s.heap.objs.size := Heap.lt_size hx
  refine wpAny_bind (wpAny_pure (wpAny_bind ?_))
  unfold ownDictForStores instanceDict
  refine wpAny_bind (wpAny_loadPart hx ?_)
  dsimp only
  refine wpAny_bind (looks_clsIn (M := model prog w) X hc _ _ _ _ (fun _ _ e => e) ?_)
  rw [hd']
  show wpAny _ _ (alloc _ >>= _) _ _ _
  refine wpAny_bind (wpAny_alloc (wpAny_bind (wpAny_update (o := { cls := .ref C, dict := none, data := .fields vs }) (Heap.get?_push_of_some _ hx) (wpAny_pure ?_))))
  show wpAny _ _ (storeInDict s.heap.objs.size (.str name s.toks) name v) _ _ _
  unfold storeInDict newKeyGuard
  have hne : s.heap.objs.size ≠ x := Nat.ne_of_gt hlx
  have D : ((s.heap.push { cls := .type "dict", data := .dict #[] }).update x fun o => { o with dict := some s.heap.objs.size }).get? s.heap.objs.size = some (dictOf [] 0) := by
    rw [Heap.get?_update_other _ _ (Ne.symm hne)]; exact Heap.get?_push_size _ rfl
  have hx1 : ((s.heap.push { cls := .type "dict", data := .dict #[] }).update x fun o => { o with dict := some s.heap.objs.size }).get? x = some { cls := .ref C, dict := some s.heap.objs.size, data := .fields vs } :=
    Heap.get?_update_self _ (Heap.get?_push_of_some _ hx) rfl
  have oth : ∀ b o, b ≠ x → s.heap.get? b = some o → ((s.heap.push { cls := .type "dict", data := .dict #[] }).update x fun o => { o with dict := some s.heap.objs.size }).get? b = some o := fun b o hb e => by
    rw [Heap.get?_update_other _ _ (Ne.symm hb)]; exact Heap.get?_push_of_some _ e
  generalize hH : (s.heap.push { cls := .type "dict", data := .dict #[] }).update x (fun o => { o with dict := some s.heap.objs.size }) = H at D hx1 oth ⊢
  refine wpAny_bind (wpAny_pure (wpAny_bind ?_))
  unfold nsSet
  refine wpAny_bind (wpAny_bind (wpAny_askSetting (wpAny_pure (wpAny_bind (wpAny_mkText (wpAny_bind (wpAny_loadPart D ?_)))))))
  dsimp only
  refine wpAny_updatePart (o := dictOf [] 0) D ?_
  have D' := Heap.get?_update_self (Obj.putName name (PyData.keyHash w.params name) (.str name (s.toks + 1)) v) D (by rw [putName_dict]; rfl)
  rw [putName_dict] at D'
  refine wpAny_bind (wpAny_lookBehind D' (pastItsLine_dict (by rw [List.size_toArray, sizeLine_eq]; exact Nat.le_of_ble_eq_true rfl)) (wpAny_pure ?_))
  refine h s.heap.objs.size _ _ _ (Heap.get?_none_of_le (Nat.le_refl _)) hne ?_ D' fun b o hb e => ?_
  · rw [Heap.get?_update_other _ _ hne]; exact hx1
  · rw [Heap.get?_update_other _ _ (Nat.ne_of_gt (Heap.lt_size e))]; exact oth b o hb e
/-- a further one -/
theorem set_next {Q : Unit → Shared → Prop} {vs : Array Value} {d : Addr} {es : List DictEntry} {n : Nat} (X : K.In s.heap) (hx : s.heap.get? x = some { cls := .ref C, dict := some d, data := .fields vs }) (hdd : s.heap.get? d = some (dictOf es n))
    (hs : findIn K (.ref C) "__setattr__" = some (some (.builtin "object.__setattr__"))) (hp : excOver K C = true) (ht : takerIn K C name = some none) (hk : es.any (·.refKey) = false) (hz : (putL name (PyData.keyHash w.params name) (.str name (s.toks + 1)) v es).length ≤ 1000)
    (h : ∀ h', h'.get? d = some (dictOf (putL name (PyData.keyHash w.params name) (.str name (s.toks + 1)) v es) (putN name es n)) → (∀ b o, b ≠ d → s.heap.get? b = some o → h'.get? b = some o) → Q () { s with heap := h', toks := s.toks + 2 }) :
    wpAny (model prog w) A (setAttr (.ref x) name v) Q E s := by
  have I : InstAt s.heap x { cls := .ref C, dict := some d, data := .fields vs } C (some (dictOf es n)) := ⟨hx, rfl, rfl, hdd⟩
  refine set_plain X I hs (osa_exc (s := { s with toks := s.toks + 1 }) X I hp ht fun b => ?_)
  obtain ⟨cd, hc, ho'⟩ := any_some hp
  have hd' : cd.hasDict = true := (Bool.and_eq_true_iff.mp ho').2
  refine wpAny_bind (wpAny_pure (wpAny_bind ?_))
  unfold ownDictForStores instanceDict
  refine wpAny_bind (wpAny_loadPart hx ?_)
  dsimp only
  refine wpAny_bind (looks_clsIn (M := model prog w) X hc _ _ _ _ (fun _ _ e => e) ?_)
  rw [hd']
  refine wpAny_pure (a := some d) ?_
  show wpAny _ _ (storeInDict d (.str name s.toks) name v) _ _ _
  unfold storeInDict newKeyGuard
  refine wpAny_bind (wpAny_pure (wpAny_bind ?_))
  unfold nsSet
  refine wpAny_bind (wpAny_bind (wpAny_askSetting (wpAny_pure (wpAny_bind (wpAny_mkText (wpAny_bind (wpAny_loadPart hdd ?_)))))))
  dsimp only
  have hk' : es.toArray.any (·.refKey) = false := by rw [List.any_toArray]; exact hk
  rw [aRefKeyMayBeTheName_at, hk', Bool.and_false]
  refine wpAny_updatePart (o := dictOf es n) hdd ?_
  have D' := Heap.get?_update_self (Obj.putName name (PyData.keyHash w.params name) (.str name (s.toks + 1)) v) hdd (by rw [putName_dict]; rfl)
  rw [putName_dict] at D'
  refine wpAny_bind (wpAny_lookBehind D' (pastItsLine_dict (by rw [List.size_toArray, sizeLine_eq]; omega)) (wpAny_pure ?_))
  refine h _ D' fun b o hb e => ?_
  rw [Heap.get?_update_other _ _ (Ne.symm hb)]; exact e
end
end
/-! ExcE -/
section
set_option maxRecDepth 100000
theorem fillE1 (P : Params) : PySem.Challenge.rw_rg0120_01 = PySem.Challenge.rw_rg0120_01 ∧ hd.heap_1 P = hd.heap_1 P := by
  k_fill
  exact ⟨rfl, rfl⟩
/-- the room that a call has, whatever is handled -/
structure Ro (A : Around) (k : Nat) : Prop where
  dp : A.depth + k < 900
  un : A.units + 20 * k < 9000
theorem Rm.ro {A : Around} {k : Nat} (r : Rm A k) : Ro A k := ⟨r.dp, r.un⟩
theorem Ro.le {A : Around} {k j : Nat} (r : Ro A k) (h : j ≤ k) : Ro A j := ⟨by have := r.dp; omega, by have := r.un; omega⟩
theorem Ro.deeper {A : Around} {k : Nat} {env : Env} (r : Ro A (k + 1)) : Ro (A.deeper env) k := ⟨by have := r.dp; simp only [Around.deeper]; omega, by have := r.un; simp only [Around.deeper]; omega⟩
theorem Ro.room {A : Around} {k : Nat} (r : Ro A k) : A.depth < recursionLimit := Nat.lt_of_le_of_lt (Nat.le_add_right _ k) (Nat.lt_of_lt_of_le r.dp (by decide))
abbrev excObj (C : Addr) (dx : Option Addr) (vs : Array Value) : Obj := { cls := .ref C, dict := dx, data := .fields vs }
abbrev excVs (t : Addr) : Array Value := #[.ref t, .none, .none, .none, .bool false, .none]
section
variable {prog : Program} {w : World} {A : Around} {s : Shared} {K : Frag} {g : Heap} {p : Program} {loose : List Str} {mean : ExcName → Option Value} {mg mb : Str → Option Value}
    {R : Result → Shared → Prop} {name qual : Str} {params : Arguments} {body : List Stmt} {scope : Scope} {dV kV doc pm cdv ct oc : Value} {an od : Option Addr} {osl : Array (Option Value)} {f cc : Addr} {args : Args} {binds : List (Str × Value)}
/-- a def that closes over its class -/
theorem enterS {own : List (Addr × Obj)}
    (X : K.In g) (T : Top p loose mean mg mb g) (sz : g.objs.size ≤ s.heap.objs.size) (st : Keep g s.heap) (hm : ∀ q ∈ own, s.heap.get? q.1 = some q.2 ∧ g.get? q.1 = none)
    (ho : K.lookup f = some ⟨oc, od, .func (ksFn name qual params body scope dV kV doc pm an cdv ct cc), osl⟩) (hcd : codeIn K cdv qual = true) (hroom : A.depth < recursionLimit)
    (hbind : BindsTo s (ksFn name qual params body scope dV kV doc pm an cdv ct cc) args binds) (hloc : ∀ y ∈ binds, scope.names.lookup y.1 = some .local)
    (h : ∀ L h₁ tk, Fr g L h₁ (fun y => binds.reverse.lookup y) → News g L h₁ own → (∀ q ∈ own, q.1 < L) →
      _root_.PySem.wpAt (model prog w) (A.deeper (ksEnv qual scope L f cdv cc)) (.func body (ksEnv qual scope L f cdv cc)) (execs body (ksEnv qual scope L f cdv cc))
        (fun fl s' => R (.ok (.ret (match fl with | .ret v => v | _ => .none))) s')
        (fun e s' => wpAny (model prog w) (A.deeper (ksEnv qual scope L f cdv cc)) (leaving (ksEnv qual scope L f cdv cc) e) (fun _ s'' => R (.error e) s'') (fun e' s'' => R (.error e') s'') s')
        { s with heap := h₁, toks := tk })
    (hcell : ∀ x ∈ scope.names, x.2 ≠ .cell) (hco : scope.isCoroutine = false) (hgen : scope.isGenerator = false) (hk : scope.kind = .function) : codeAny (model prog w) A (.call (.ref f) args) R s := by
  refine ks_codeAny_call_defAt (fd := ksFn name qual params body scope dV kV doc pm an cdv ct cc) (body := body) (binds := binds) hroom ((X.keeps st) _ _ ho) rfl (T.nolimit.keeps st) (codeRec_of (X.keeps st) hcd) rfl hbind hcell hloc (fun h₁ hns hk₁ => ?_) hco hgen hk
  exact h s.heap.objs.size h₁ _ ⟨hns, fun b o e => hk₁ b o (st b o e), sz⟩ (fun q hq => ⟨hk₁ _ _ (hm q hq).1, Nat.ne_of_lt (Heap.lt_size (hm q hq).1), (hm q hq).2⟩) (fun q hq => Heap.lt_size (hm q hq).1)
end
section
variable {prog : Program} {w : World} {A : Around} {s : Shared} {h₀ : Heap} {L : Addr} {m : Str → Option Value} {news : List (Addr × Obj)} {gl : Obj → List (Addr × Obj)} {K : Frag} {p : Program} {loose : List Str} {mean : ExcName → Option Value} {mg mb : Str → Option Value}
    {E : Value → Shared → Prop}
theorem instExc {h : Heap} {x C : Addr} {vs : Array Value} (N : News h₀ L h news) (h1 : (x, excObj C none vs) ∈ news) : InstAt h x (excObj C none vs) C none := ⟨(N _ h1).1, rfl, rfl, trivial⟩
/-- what follows HeapError among the bases of C is the built-in Exception -/
def overHeap (K : Frag) (C D : Addr) : Bool := (clsIn K C).any fun cd => (match (cd.mro.dropWhile (· != .ref D)).drop 1 with | .type t :: _ => t == "Exception" | _ => false)
theorem gmS_use {so x C D : Addr} {vs : Array Value} {pl : Sem Bool} {Q : Value × List Value → Shared → Prop} (F : Fr h₀ L s.heap m) (X : K.In h₀) (N : News h₀ L s.heap news) (hso : (so, ks_superObj D x C) ∈ news) (hx : (x, excObj C none vs) ∈ news)
    (hov : overHeap K C D = true) (hsub : mroIn K C (.type "Exception") = some true) (ho : nsIn K cStatics "thirdparty.any" = some none)
    (h : ∀ q h' tk, Fr h₀ L h' m → News h₀ L h' ((q, ({ cls := .type "method-wrapper", data := .fields #[.builtin "Exception.__init__", .ref x] } : Obj)) :: news) → (∀ p ∈ news, p.1 < q) → Q (.ref q, []) { s with heap := h', toks := tk }) :
    wpAny (model prog w) A (getMethod (.ref so) "__init__" pl) Q E s := by
  have X' : K.In s.heap := X.keeps F.keep
  obtain ⟨hh, g, d, t, os⟩ := s
  obtain ⟨cd, hc, hmr⟩ := any_some hov
  obtain ⟨l, hl⟩ : ∃ l, (cd.mro.dropWhile (· != .ref D)).drop 1 = .type "Exception" :: l := by
    split at hmr
    · rename_i t l e
      rw [e, beq_iff_eq.mp hmr]; exact ⟨l, rfl⟩
    · cases hmr
  have I := instExc N hx
  refine getMethod_super (N _ hso).1 (looks_opaque X' ho) (l₀ := cd.mro) (l := l) ((looks_clsIn X' hc).andThen .now) hl I.at_ rfl (looks_mroIn X' hsub) (ks_ne X' I hc) ?_
  obtain ⟨F', N', l'⟩ := ks_newsPush (s := ⟨hh, g, d, t, os⟩) (o := { cls := .type "method-wrapper", data := .fields #[.builtin "Exception.__init__", .ref x] }) F N rfl (Heap.get?_push_at rfl rfl) (fun b o e => Heap.get?_push_of_some _ e)
  exact h _ _ _ F' N' l'
/-- the exception's object in the ledger is turned -/
theorem exc_upd {h' : Heap} {x : Addr} {o o' : Obj} (F : Fr h₀ L s.heap m) (N : News h₀ L s.heap news) (U : UpdF x o news gl) (ho : h'.get? x = some o') (k : ∀ b ob, b ≠ x → s.heap.get? b = some ob → h'.get? b = some ob) : Fr h₀ L h' m ∧ News h₀ L h' (gl o') := upd_news F N U ho k
abbrev excBm : List Value := [.ref 47, .type "Exception", .type "BaseException", .type "object"]
abbrev excCls (C : Addr) (nm : Str) (N a : Addr) (b c : Nat) : Obj := excClassObj nm nm C N [.ref 47] excBm true [] [] false none none (some (.ref a)) none (some (.str nm b)) (some (.str nm c)) (some (.bool true)) "Exception.__new__"
def IsExc (K : Frag) (C : Addr) : Prop := ∃ nm N a b c, K.lookup C = some (excCls C nm N a b c)
theorem isExc60 (P : Params) : IsExc (hd.heap_1 P) 60 := ⟨Str.ofString "TermFault", 59, 51, 234, 242, by kernel_rfl⟩
theorem isExc100 (P : Params) : IsExc (hd.heap_1 P) 100 := ⟨Str.ofString "PaperFault", 99, 75, 266, 274, by kernel_rfl⟩
theorem cbS_use {mw x C t0 : Addr} {v : Value} {Q : Value → Shared → Prop} (F : Fr h₀ L s.heap m) (X : K.In h₀) (N : News h₀ L s.heap news) (hmw : (mw, ({ cls := .type "method-wrapper", data := .fields #[.builtin "Exception.__init__", .ref x] } : Obj)) ∈ news) (hC : IsExc K C)
    (U : UpdF x (excObj C none (excVs t0)) news gl) (h : ∀ h' t1, Fr h₀ L h' m → News h₀ L h' (gl (excObj C none (excVs t1))) → Q .none { s with heap := h' }) :
    wpAny (model prog w) A (call (.ref mw) [v]) Q E s := by
  have X' : K.In s.heap := X.keeps F.keep
  obtain ⟨nm, N', a, b, c, hC⟩ := hC
  have hx := (N _ (updF_mem U)).1
  have hm := (N _ hmw).1
  have hCh := X' _ _ hC
  obtain ⟨hh, g, d, t, os⟩ := s
  refine call_bound hCh hm hx fun h' ho k => ?_
  obtain ⟨F', N'⟩ := upd_news F N U ho k
  exact h _ _ F' N'
theorem saS_use {x C t0 : Addr} {name : Str} {v : Value} {Q : Unit → Shared → Prop} (F : Fr h₀ L s.heap m) (X : K.In h₀) (N : News h₀ L s.heap news) (hs : findIn K (.ref C) "__setattr__" = some (some (.builtin "object.__setattr__"))) (hp : excOver K C = true) (ht : takerIn K C name = some none)
    (U : UpdF x (excObj C none (excVs t0)) news gl)
    (h : ∀ h' d tk tk2 ha, Fr h₀ L h' m → News h₀ L h' ((d, dictOf [⟨ha, .str name tk, v⟩] 1) :: gl (excObj C (some d) (excVs t0))) → s.heap.get? d = none → d ≠ x → Q () { s with heap := h', toks := tk2 }) :
    wpAny (model prog w) A (setAttr (.ref x) name v) Q E s := by
  have hx := (N _ (updF_mem U)).1
  refine set_first (X.keeps F.keep) hx hs hp ht fun d h' tk ha hd hne ho hod k => ?_
  obtain ⟨F', N'⟩ := upd_news F N U ho k
  refine h h' d tk _ ha F' (fun q hq => ?_) hd hne
  rcases List.mem_cons.mp hq with rfl | hq
  · refine ⟨hod, fun e => ?_, ?_⟩
    · obtain ⟨oL, es, ep, hL, _⟩ := F.ns
      rw [show d = L from e, hL] at hd; cases hd
    · cases e : h₀.get? d with
      | none => rfl
      | some o => rw [F.keep _ _ e] at hd; cases hd
  · exact N' q hq
end
def MwAt (u : Addr) (h : Heap) : Prop := ∃ x, h.get? u = some ({ cls := .type "method-wrapper", data := .fields #[.builtin "Exception.__init__", .ref x] } : Obj)
theorem MwAt.of {h₀ h : Heap} {L u x : Addr} {news : List (Addr × Obj)} (N : News h₀ L h news) (hm : (u, ({ cls := .type "method-wrapper", data := .fields #[.builtin "Exception.__init__", .ref x] } : Obj)) ∈ news) : MwAt u h := ⟨x, (N _ hm).1⟩
theorem callWith_mw {prog : Program} {w : World} {A : Around} {E : Value → Shared → Prop} {s : Shared} {pos : Pos} {u : Addr} {first : List Value} {env : Env} {e : PySem.Expr} {rest : List PySem.Expr} {Q : Value → Shared → Prop}
    (h : wpAny (model prog w) A (spliced (backTo pos (starEach (e :: rest) env))) (fun vs s₁ => MwAt u s₁.heap ∧ wpAny (model prog w) A (call (.ref u) (first ++ vs)) Q E s₁) E s)
    (he : starEach (e :: rest) env = (false, eval e env) :: starEach rest env := by rfl) (hplain : (backTo pos (starEach rest env)).any (·.1) = false := by rfl) :
    wpAny (model prog w) A (callWith pos (.ref u) first (backTo pos (starEach (e :: rest) env)) []) Q E s := by
  rw [he] at h ⊢
  have hpl : (backTo pos ((false, eval e env) :: starEach rest env)).any (·.1) = false := by show (false || (backTo pos (starEach rest env)).any (·.1)) = false; rw [hplain]; rfl
  unfold callWith
  refine wpAny_bind (wpAny_holding (wpAny_mono (evalArgs_plain (Q := fun x s₁ => MwAt u s₁.heap ∧ wpAny (model prog w) A (call (.ref u) (first ++ x.pos) x.kw) Q E s₁) h) (fun x s₁ h₁ => wpAny_bind (wpAny_standAt ?_)) fun _ _ x => x))
  obtain ⟨⟨y, ho⟩, hcall⟩ := h₁
  simp only [hpl, List.any_nil, Bool.or_false]
  refine wpAny_bind (m := keeperOf (.ref u)) ?_
  unfold keeperOf
  refine wpAny_bind (wpAny_load ho ?_)
  simp only [show (Value.type "method-wrapper" != Value.type "method") = true by decide, show (Value.type "method-wrapper" == Value.type "builtin_function_or_method" || Value.type "method-wrapper" == Value.type "method-wrapper") = true by decide, if_true]
  refine wpAny_pure ?_
  exact wpAny_bind (wpAny_mono hcall (fun r s₂ hr => wpAny_bind (wpAny_holding (wpAny_point (wpAny_pure hr)))) fun _ _ x => x)
/-- what super() asks of the program's main module -/
structure ProgOk (prog : Program) : Prop where
  file : (prog.main.file == Str.ofString "/claim/cut.py") = true
  top : (prog.main.scope.names.lookup (Str.ofString "super")).isSome = false
/-- HeapError.__init__ upon an exception of the class C -/
def HInitC (C : Addr) (prog : Program) (w : World) (p : Program) (loose : List Str) (mean : ExcName → Option Value) (mg mb : Str → Option Value) : Prop :=
  ∀ (A : Around) (s : Shared) (e t0 : Addr) (v : Value) (E : Value → Shared → Prop) (Q : Value → Shared → Prop) (g : Heap),
    ProgOk prog → (hd.heap_1 w.params).In g → Top p loose mean mg mb g → Keep g s.heap → g.get? e = none → Ro A 1 → s.heap.get? e = some (excObj C none (excVs t0)) → handedIn v = true →
    (∀ h' tk t1 d ha tk2, s.heap.get? d = none → h'.get? e = some (excObj C (some d) (excVs t1)) → h'.get? d = some (dictOf [⟨ha, .str (Str.ofString "what") tk2, v⟩] 1) → (∀ b o, b ≠ e → s.heap.get? b = some o → h'.get? b = some o) → Q .none { s with heap := h', toks := tk }) →
    codeAny (model prog w) A (.call (.ref 37) ⟨[.ref e, v], []⟩) (fun r s' => match r with | .ok (.ret x) => Q x s' | .ok _ => False | .error e => E e s') s
theorem w67 : True := by
  k_with "M k_inst" => ((fail_if_success (have := endOfExcE)); case' FRESH => ((refine' instExc ?N ?h1; (case N => k_asm); (case h1 => k_mem))))
  trivial
theorem w68 : True := by
  k_with "M getMethod ref" => ((fail_if_success (have := endOfExcE)); case' FRESH => ((k_here; k_dflt (refine' gmS_use ?F ?X ?N ?so ?x ?ov ?sub ?st ?_; (case F => k_asm); (case X => k_asm); (case N => k_asm); (case so => k_mem); (case x => k_mem); (case ov => kernel_rfl); (case sub => k_is); (case st => k_is); k_whole); intro q' h' tk' F' N' l1; (try k_lt l1))))
  trivial
theorem w69 : True := by
  k_with "M callWith ref" => ((fail_if_success (have := endOfExcE)); case' FRESH => ((k_here; k_dflt (refine callWith_mw ?_))))
  trivial
theorem w70 : True := by
  k_with "M And" => ((fail_if_success (have := endOfExcE)); case' FRESH => (((with_reducible show MwAt _ _ ∧ _); k_dflt (refine' ⟨MwAt.of ?N ?m, ?_⟩; (case N => k_asm); (case m => k_mem)); (try dsimp only [List.nil_append, List.cons_append]))))
  trivial
theorem w71 : True := by
  k_with "M call ref" => ((fail_if_success (have := endOfExcE)); case' FRESH => ((k_here; k_dflt (refine' cbS_use ?F ?X ?N ?mw ?C ?U ?_; (case F => k_asm); (case X => k_asm); (case N => k_asm); (case mw => k_mem); (case U => k_updF); (case C => first | exact isExc60 _ | exact isExc100 _)); intro h' t' F' N'; (try dsimp only at N'))))
  trivial
theorem w72 : True := by
  k_with "M setAttr ref" => ((fail_if_success (have := endOfExcE)); case' FRESH => ((k_here; k_dflt (refine' saS_use ?F ?X ?N ?s ?p ?t ?U ?_; (case F => k_asm); (case X => k_asm); (case N => k_asm); (case U => k_updF); (case s => k_is); (case p => kernel_rfl); (case t => k_is)); intro h' d' tk' tk2' ha' F' N' hd' hne'; (try dsimp only at N'))))
  trivial
theorem w73 : True := by
  k_with "M wpAt" => ((fail_if_success (have := endOfExcE)); case' FRESH => ((ks_step "attributeBase Call"; k_here; k_dflt (refine ks_node (by k_asm) (by k_asm) (by k_asm) (by k_asm) (by k_is) (by rfl) (by rfl) (by k_inst) (by k_is) (by rfl) (by assumption) (by k_is) (by k_is) (by k_is) (by k_is) (by decide) (by rfl) (by rfl) (by rfl) (by rfl) (by assumption) (by first | boot_by_name | rfl | kernel_rfl) ?_; intro so' h' F' N' l1; (try k_lt l1)))))
  trivial
section
variable {prog : Program} {w : World} {p : Program} {loose : List Str} {mean : ExcName → Option Value} {mg mb : Str → Option Value}
theorem hide_one {g h : Heap} {e : Addr} (st : Keep g h) (hg : g.get? e = none) : Keep g (hideAll h [e]) ∧ Keep (hideAll h [e]) h ∧ (hideAll h [e]).get? e = none ∧ (hideAll h [e]).objs.size ≤ h.objs.size ∧ ∀ b o, b ≠ e → h.get? b = some o → (hideAll h [e]).get? b = some o := by
  refine ⟨fun b o q => hideAll_get _ (st b o q) fun hm => ?_, fun b o q => of_hideAll _ q, hideAll_none _ (.head _), Nat.le_of_eq (hideAll_size _ _), fun b o hb q => hideAll_get _ q fun hm => hb (List.mem_singleton.mp hm)⟩
  rw [List.mem_singleton.mp hm, hg] at q; cases q
set_option maxHeartbeats 4000000 in
theorem hinit_60 : HInitC 60 prog w p loose mean mg mb := by
  intro A s e t0 v E Q g PO X T st hg R he hv h
  obtain ⟨hfile, htop⟩ := PO
  obtain ⟨hA, dA, fA, gA, uA⟩ := A
  obtain ⟨k1, k2, k3, k4, k5⟩ := hide_one st hg
  have X := X.keeps k1
  have T := T.keeps k1
  k_dflt (refine' enterS (own := [(e, excObj 60 none (excVs t0))]) (binds := [(Str.ofString "self", .ref e), (Str.ofString "what", v)]) X T k4 k2 ?hm ?ho ?hcd (Ro.room R) ?hb ?hl ?_ ?c1 ?c2 ?c3 ?c4)
  case hm => intro q hq; rw [List.mem_singleton.mp hq]; exact ⟨he, k3⟩
  case ho => k_dflt k_is
  case hcd => k_dflt k_is
  case hb => exact BindsTo.of_eq rfl
  case hl => exact locs rfl
  case c1 => decide
  case c2 => rfl
  case c3 => rfl
  case c4 => rfl
  intro L h₁ tk1 F N hlt
  have hend : ∀ (t1 d : Addr) (ha : Int) (tk2 : Tok) (h' : Heap) (m' : Str → Option Value) (news : List (Addr × Obj)) (tk : Nat), Fr (hideAll s.heap [e]) L h' m' → News (hideAll s.heap [e]) L h' news → (e, excObj 60 (some d) (excVs t1)) ∈ news → (d, dictOf [⟨ha, .str (Str.ofString "what") tk2, v⟩] 1) ∈ news → (∀ b, d = b → b ≠ e) → Q .none { s with heap := h', toks := tk } := by
    intro t1 d ha tk2 h' m' news tk F' N' m1 m2 hde
    refine h h' tk t1 d ha tk2 ?_ (N' _ m1).1 (N' _ m2).1 fun b o hb q => F'.keep _ _ (k5 b o hb q)
    cases q : s.heap.get? d with
    | none => rfl
    | some o => have := (N' _ m2).2.2; rw [k5 _ _ (hde d rfl) q] at this; cases this
  clear h he st hg k1 k2 k3 k4 k5 hlt
  (try dsimp only)
  refine ks_wpAt_execs_cons (ks_wpAt_Expr_any (ks_wpAt_MethodCall ?_))
  k_steps
  rename Fr _ _ _ _ => F9
  rename News _ _ _ _ => N9
  refine hend _ _ _ _ _ _ _ _ F9 N9 (by k_mem) (by k_mem) ?_
  rintro b rfl
  assumption
set_option maxHeartbeats 4000000 in
theorem hinit_100 : HInitC 100 prog w p loose mean mg mb := by
  intro A s e t0 v E Q g PO X T st hg R he hv h
  obtain ⟨hfile, htop⟩ := PO
  obtain ⟨hA, dA, fA, gA, uA⟩ := A
  obtain ⟨k1, k2, k3, k4, k5⟩ := hide_one st hg
  have X := X.keeps k1
  have T := T.keeps k1
  k_dflt (refine' enterS (own := [(e, excObj 100 none (excVs t0))]) (binds := [(Str.ofString "self", .ref e), (Str.ofString "what", v)]) X T k4 k2 ?hm ?ho ?hcd (Ro.room R) ?hb ?hl ?_ ?c1 ?c2 ?c3 ?c4)
  case hm => intro q hq; rw [List.mem_singleton.mp hq]; exact ⟨he, k3⟩
  case ho => k_dflt k_is
  case hcd => k_dflt k_is
  case hb => exact BindsTo.of_eq rfl
  case hl => exact locs rfl
  case c1 => decide
  case c2 => rfl
  case c3 => rfl
  case c4 => rfl
  intro L h₁ tk1 F N hlt
  have hend : ∀ (t1 d : Addr) (ha : Int) (tk2 : Tok) (h' : Heap) (m' : Str → Option Value) (news : List (Addr × Obj)) (tk : Nat), Fr (hideAll s.heap [e]) L h' m' → News (hideAll s.heap [e]) L h' news → (e, excObj 100 (some d) (excVs t1)) ∈ news → (d, dictOf [⟨ha, .str (Str.ofString "what") tk2, v⟩] 1) ∈ news → (∀ b, d = b → b ≠ e) → Q .none { s with heap := h', toks := tk } := by
    intro t1 d ha tk2 h' m' news tk F' N' m1 m2 hde
    refine h h' tk t1 d ha tk2 ?_ (N' _ m1).1 (N' _ m2).1 fun b o hb q => F'.keep _ _ (k5 b o hb q)
    cases q : s.heap.get? d with
    | none => rfl
    | some o => have := (N' _ m2).2.2; rw [k5 _ _ (hde d rfl) q] at this; cases this
  clear h he st hg k1 k2 k3 k4 k5 hlt
  (try dsimp only)
  refine ks_wpAt_execs_cons (ks_wpAt_Expr_any (ks_wpAt_MethodCall ?_))
  k_steps
  rename Fr _ _ _ _ => F9
  rename News _ _ _ _ => N9
  refine hend _ _ _ _ _ _ _ _ F9 N9 (by k_mem) (by k_mem) ?_
  rintro b rfl
  assumption
end
end
theorem endOfExcE : True := trivial
/-! ExcF -/
section
set_option maxRecDepth 100000
theorem fillE2 (P : Params) : PySem.Challenge.rw_rg0120_01 = PySem.Challenge.rw_rg0120_01 ∧ hd.heap_1 P = hd.heap_1 P := by
  k_fill
  exact ⟨rfl, rfl⟩
theorem Ro.make {A : Around} {k : Nat} {C : Addr} {vals : List Value} (r : Ro A (k + 1)) : Ro (A.under (.builtin "type.__call__" ⟨.ref C :: vals, []⟩)) k :=
  ⟨by have := r.dp; rw [depth_under_make]; omega, by have := r.un; rw [units_under_make]; omega⟩
/-- TermFault(text) -/
def MkTerm (prog : Program) (w : World) (p : Program) (loose : List Str) (mean : ExcName → Option Value) (mg mb : Str → Option Value) : Prop :=
  ∀ (A : Around) (s : Shared) (v : Value) (E : Value → Shared → Prop) (Q : Value → Shared → Prop),
    ProgOk prog → (hd.heap_1 w.params).In s.heap → Top p loose mean mg mb s.heap → Ro A 2 → handedIn v = true →
    (∀ h' tk e d t1 o, s.heap.get? e = none → s.heap.get? d = none → d ≠ e → Keep s.heap h' → h'.get? e = some (excObj 60 (some d) (excVs t1)) → h'.get? d = some o → Q (.ref e) { s with heap := h', toks := tk }) →
    wpAny (model prog w) A (call (.ref 60) [v]) Q E s
section
variable {prog : Program} {w : World} {A : Around} {p : Program} {loose : List Str} {mean : ExcName → Option Value} {mg mb : Str → Option Value}
theorem mk_term : MkTerm prog w p loose mean mg mb := by
  intro A s v E Q PO X T R hv h
  have hi : findIn (hd.heap_1 w.params) (.ref 60) "__init__" = some (some (.ref 37)) := by k_is
  obtain ⟨o37, h37, c37⟩ : ∃ o, (hd.heap_1 w.params).lookup 37 = some o ∧ o.cls = .type "function" := by
    cases q : (hd.heap_1 w.params).lookup 37 with
    | none => have : ((hd.heap_1 w.params).lookup 37).isSome = true := by kernel_rfl
              rw [q] at this; cases this
    | some o => have : ((hd.heap_1 w.params).lookup 37).map (·.cls) = some (.type "function") := by kernel_rfl
                rw [q] at this; exact ⟨o, rfl, Option.some.inj this⟩
  obtain ⟨nm, N', a, b, c, hC⟩ := isExc60 w.params
  obtain ⟨hp, g, d, tk, os⟩ := s
  refine call_ex PySem.F.excBase_Exception (by decide) (by decide) (by decide) (X _ _ hC) (looks_findIn X hi) (X _ _ h37) c37 (by show (1 : Nat) ≤ sizeLine; decide) fun h' e hm => ?_
  obtain ⟨t, he, ht, htt⟩ := hm.there
  have kp : Keep hp h' := hm.keeps
  refine wpAny_call (hinit_60 _ _ _ _ _ _ _ hp PO X T kp hm.new (Ro.make R) he hv fun h'' tk' t1 d' ha tk2 hd' he' hdd k => ⟨rfl, ?_⟩)
  refine h h'' tk' e d' t1 _ hm.new ?_ (fun z => by rw [z, show h'.get? e = _ from he] at hd'; cases hd') (fun b o q => ?_) he' hdd
  · cases q : hp.get? d' with
    | none => rfl
    | some o => have := kp _ _ q; rw [show h'.get? d' = none from hd'] at this; cases this
  · exact k b o (fun z => by rw [z, hm.new] at q; cases q) (kp _ _ q)
end
section
variable {prog : Program} {w : World} {A : Around} {s : Shared} {h₀ : Heap} {L : Addr} {m : Str → Option Value} {news : List (Addr × Obj)} {gl : Obj → List (Addr × Obj)} {p : Program} {loose : List Str} {mean : ExcName → Option Value} {mg mb : Str → Option Value}
    {E : Value → Shared → Prop}
theorem fresh_news {h' : Heap} {d : Addr} {o : Obj} (F : Fr h₀ L s.heap m) (N : News h₀ L h' news) (hd : s.heap.get? d = none) (ho : h'.get? d = some o) : News h₀ L h' ((d, o) :: news) := fun q hq => by
  rcases List.mem_cons.mp hq with rfl | hq
  · refine ⟨ho, fun e => ?_, ?_⟩
    · obtain ⟨oL, es, ep, hL, _⟩ := F.ns
      rw [show d = L from e, hL] at hd; cases hd
    · cases e : h₀.get? d with
      | none => rfl
      | some o => rw [F.keep _ _ e] at hd; cases hd
  · exact N q hq
theorem ne_of_none {h : Heap} {d : Addr} (N : News h₀ L h news) (hd : h.get? d = none) : ∀ p ∈ news, p.1 ≠ d := fun p hp e => by
  have := (N p hp).1; rw [e, hd] at this; cases this
theorem mcS_use {q e t0 : Addr} {v : Value} {Q : Value → Shared → Prop} (PO : ProgOk prog) (F : Fr h₀ L s.heap m) (X : (hd.heap_1 w.params).In h₀) (T : Top p loose mean mg mb h₀) (N : News h₀ L s.heap news) (hq : (q, methodObj (.ref 37) (.ref e)) ∈ news)
    (U : UpdF e (excObj 100 none (excVs t0)) news gl) (R : Ro A 1) (hv : handedIn v = true)
    (h : ∀ h' tk t1 d ha tk2, Fr h₀ L h' m → News h₀ L h' ((d, dictOf [⟨ha, .str (Str.ofString "what") tk2, v⟩] 1) :: gl (excObj 100 (some d) (excVs t1))) → (∀ p ∈ news, p.1 ≠ d) → Q .none { s with heap := h', toks := tk }) :
    wpAny (model prog w) A (call (.ref q) [v]) Q E s := by
  have hm := N _ (updF_mem U)
  refine wpAny_call (ks_codeAny_call_bound (N _ hq).1 (hinit_100 _ _ _ _ _ _ _ h₀ PO X T F.keep hm.2.2 R hm.1 hv fun h' tk t1 d ha tk2 hd he hdd k => ?_))
  obtain ⟨F', N'⟩ := upd_news F N U he k
  exact h h' tk t1 d ha tk2 F' (fresh_news F N' hd hdd) (ne_of_none N hd)
theorem saN_use {K : Frag} {x C d : Addr} {vs : Array Value} {es : List DictEntry} {n : Nat} {name : Str} {v : Value} {Q : Unit → Shared → Prop} (F : Fr h₀ L s.heap m) (X : K.In h₀) (N : News h₀ L s.heap news) (hx : (x, excObj C (some d) vs) ∈ news) (U : UpdF d (dictOf es n) news gl)
    (hs : findIn K (.ref C) "__setattr__" = some (some (.builtin "object.__setattr__"))) (hp : excOver K C = true) (ht : takerIn K C name = some none) (hk : es.any (·.refKey) = false) (hz : ∀ a b, (putL name a b v es).length ≤ 1000)
    (h : ∀ h' ha tk tk2, Fr h₀ L h' m → News h₀ L h' (gl (dictOf (putL name ha (.str name tk) v es) (putN name es n))) → Q () { s with heap := h', toks := tk2 }) :
    wpAny (model prog w) A (setAttr (.ref x) name v) Q E s := by
  refine set_next (X.keeps F.keep) (N _ hx).1 (N _ (updF_mem U)).1 hs hp ht hk (hz _ _) fun h' ho k => ?_
  obtain ⟨F', N'⟩ := upd_news F N U ho k
  exact h h' _ _ _ F' N'
end
/-- what an exception's dict holds of its place -/
def placeDict (v n : Value) (o : Obj) : Prop := ∃ h1 h2 t1 t2, o = dictOf [⟨h1, .str (Str.ofString "what") t1, v⟩, ⟨h2, .str (Str.ofString "place") t2, n⟩] 2
/-- PaperFault.__init__ -/
def PInitC (prog : Program) (w : World) (p : Program) (loose : List Str) (mean : ExcName → Option Value) (mg mb : Str → Option Value) : Prop :=
  ∀ (A : Around) (s : Shared) (e t0 : Addr) (v n : Value) (E : Value → Shared → Prop) (Q : Value → Shared → Prop) (g : Heap),
    ProgOk prog → (hd.heap_1 w.params).In g → Top p loose mean mg mb g → Keep g s.heap → g.get? e = none → Ro A 2 → s.heap.get? e = some (excObj 100 none (excVs t0)) → handedIn v = true → handedIn n = true →
    (∀ h' tk t1 d o, s.heap.get? d = none → h'.get? e = some (excObj 100 (some d) (excVs t1)) → h'.get? d = some o → placeDict v n o → (∀ b o, b ≠ e → s.heap.get? b = some o → h'.get? b = some o) → Q .none { s with heap := h', toks := tk }) →
    codeAny (model prog w) A (.call (.ref 90) ⟨[.ref e, v, n], []⟩) (fun r s' => match r with | .ok (.ret x) => Q x s' | .ok _ => False | .error e => E e s') s
theorem w74 : True := by
  k_with "M k_inst" => ((fail_if_success (have := endOfExcF)); case' FRESH => ((refine' instExc ?N ?h1; (case N => k_asm); (case h1 => k_mem))))
  trivial
theorem w75 : True := by
  k_with "M call ref" => ((fail_if_success (have := endOfExcF)); case' FRESH => ((k_here; k_dflt (refine' mcS_use ?P ?F ?X ?T ?N ?q ?U ?R ?v ?_; (case P => assumption); (case F => k_asm); (case X => k_asm); (case T => k_asm); (case N => k_asm); (case q => k_mem); (case U => k_updF); (case R => exact Ro.deeper (by assumption)); (case v => assumption)); intro h' tk' t' d' ha' tk2' F' N' l1; (try dsimp only at N'))))
  trivial
theorem w76 : True := by
  k_with "M setAttr ref" => ((fail_if_success (have := endOfExcF)); case' FRESH => ((k_here; k_dflt (refine' saN_use ?F ?X ?N ?x ?U ?s ?p ?t ?k ?z ?_; (case F => k_asm); (case X => k_asm); (case N => k_asm); (case x => k_mem); (case U => k_updF); (case s => k_is); (case p => kernel_rfl); (case t => k_is); (case k => exact rfl); (case z => intro a b; exact Nat.le_of_ble_eq_true rfl)); intro h' ha' tk' tk2' F' N'; (try dsimp only at N'))))
  trivial
theorem w77 : True := by
  k_with "M wpAt" => ((fail_if_success (have := endOfExcF)); case' FRESH => ((ks_step "attributeBase Call"; k_here; k_dflt (refine ks_node (by k_asm) (by k_asm) (by k_asm) (by k_asm) (by k_is) (by rfl) (by rfl) (by k_inst) (by k_is) (by rfl) (by assumption) (by k_is) (by k_is) (by k_is) (by k_is) (by decide) (by rfl) (by rfl) (by rfl) (by rfl) (by assumption) (by first | boot_by_name | rfl | kernel_rfl) ?_; intro so' h' F' N' l1; (try k_lt l1)))))
  trivial
section
variable {prog : Program} {w : World} {p : Program} {loose : List Str} {mean : ExcName → Option Value} {mg mb : Str → Option Value}
set_option maxHeartbeats 4000000 in
theorem pinit : PInitC prog w p loose mean mg mb := by
  intro A s e t0 v n E Q g PO X T st hg R he hv hn h
  have hfile := PO.file
  have htop := PO.top
  obtain ⟨hA, dA, fA, gA, uA⟩ := A
  obtain ⟨k1, k2, k3, k4, k5⟩ := hide_one st hg
  have X := X.keeps k1
  have T := T.keeps k1
  k_dflt (refine' enterS (own := [(e, excObj 100 none (excVs t0))]) (binds := [(Str.ofString "self", .ref e), (Str.ofString "what", v), (Str.ofString "place", n)]) X T k4 k2 ?hm ?ho ?hcd (Ro.room R) ?hb ?hl ?_ ?c1 ?c2 ?c3 ?c4)
  case hm => intro q hq; rw [List.mem_singleton.mp hq]; exact ⟨he, k3⟩
  case ho => k_dflt k_is
  case hcd => k_dflt k_is
  case hb => exact BindsTo.of_eq rfl
  case hl => exact locs rfl
  case c1 => decide
  case c2 => rfl
  case c3 => rfl
  case c4 => rfl
  intro L h₁ tk1 F N hlt
  have hend : ∀ (t1 d : Addr) (o : Obj) (h' : Heap) (m' : Str → Option Value) (news : List (Addr × Obj)) (tk : Nat), Fr (hideAll s.heap [e]) L h' m' → News (hideAll s.heap [e]) L h' news → (e, excObj 100 (some d) (excVs t1)) ∈ news → (d, o) ∈ news → placeDict v n o → NeA e d → Q .none { s with heap := h', toks := tk } := by
    intro t1 d o h' m' news tk F' N' m1 m2 hp hde
    refine h h' tk t1 d o ?_ (N' _ m1).1 (N' _ m2).1 hp fun b o hb q => F'.keep _ _ (k5 b o hb q)
    cases q : s.heap.get? d with
    | none => rfl
    | some o => have := (N' _ m2).2.2; rw [k5 _ _ hde.r q] at this; cases this
  clear h he st hg k1 k2 k3 k4 k5 hlt
  (try dsimp only)
  refine ks_wpAt_execs_cons (ks_wpAt_Expr_any (ks_wpAt_MethodCall ?_))
  k_steps
  rename Fr _ _ _ _ => F9
  rename News _ _ _ _ => N9
  exact hend _ _ _ _ _ _ _ F9 N9 (by k_mem) (by k_mem) ⟨_, _, _, _, rfl⟩ (by first | assumption | (refine NeA.of ?_; k_ne))
/-- PaperFault(text, place) -/
def MkPaper (prog : Program) (w : World) (p : Program) (loose : List Str) (mean : ExcName → Option Value) (mg mb : Str → Option Value) : Prop :=
  ∀ (A : Around) (s : Shared) (v n : Value) (E : Value → Shared → Prop) (Q : Value → Shared → Prop),
    ProgOk prog → (hd.heap_1 w.params).In s.heap → Top p loose mean mg mb s.heap → Ro A 3 → handedIn v = true → handedIn n = true →
    (∀ h' tk e d t1 o, s.heap.get? e = none → s.heap.get? d = none → d ≠ e → Keep s.heap h' → h'.get? e = some (excObj 100 (some d) (excVs t1)) → h'.get? d = some o → placeDict v n o → Q (.ref e) { s with heap := h', toks := tk }) →
    wpAny (model prog w) A (call (.ref 100) [v, n]) Q E s
theorem mk_paper : MkPaper prog w p loose mean mg mb := by
  intro A s v n E Q PO X T R hv hn h
  have hi : findIn (hd.heap_1 w.params) (.ref 100) "__init__" = some (some (.ref 90)) := by k_is
  obtain ⟨o37, h37, c37⟩ : ∃ o, (hd.heap_1 w.params).lookup 90 = some o ∧ o.cls = .type "function" := by
    cases q : (hd.heap_1 w.params).lookup 90 with
    | none => have : ((hd.heap_1 w.params).lookup 90).isSome = true := by kernel_rfl
              rw [q] at this; cases this
    | some o => have : ((hd.heap_1 w.params).lookup 90).map (·.cls) = some (.type "function") := by kernel_rfl
                rw [q] at this; exact ⟨o, rfl, Option.some.inj this⟩
  obtain ⟨nm, N', a, b, c, hC⟩ := isExc100 w.params
  obtain ⟨hp, g, d, tk, os⟩ := s
  refine call_ex PySem.F.excBase_Exception (by decide) (by decide) (by decide) (X _ _ hC) (looks_findIn X hi) (X _ _ h37) c37 (by show (2 : Nat) ≤ sizeLine; decide) fun h' e hm => ?_
  obtain ⟨t, he, ht, htt⟩ := hm.there
  have kp : Keep hp h' := hm.keeps
  refine wpAny_call (pinit _ _ _ _ _ _ _ _ hp PO X T kp hm.new (Ro.make R) he hv hn fun h'' tk' t1 d' o hd' he' hdd hpl k => ⟨rfl, ?_⟩)
  refine h h'' tk' e d' t1 o hm.new ?_ (fun z => ?_) (fun b o q => ?_) he' hdd hpl
  · cases q : hp.get? d' with
    | none => rfl
    | some o => have := kp _ _ q; rw [show h'.get? d' = none from hd'] at this; cases this
  · rw [z, show h'.get? e = _ from he] at hd'; cases hd'
  · exact k b o (fun z => by rw [z, hm.new] at q; cases q) (kp _ _ q)
end
end
theorem endOfExcF : True := trivial
/-! ExcG -/
section
set_option maxRecDepth 100000
/-! the raise of an own exception, and its leaving of the frames -/
/-- v is an own exception that may be raised, and what follows -/
def RaiseG (C : Addr) (P : Value → Shared → Prop) (v : Value) (s : Shared) : Prop :=
  ∃ e dx vs K, v = .ref e ∧ s.heap.get? e = some (excObj C dx vs) ∧ vs[1]? = some .none ∧ Frag.In K s.heap ∧ IsExc K C ∧ P (.ref e) s
section
variable {M : Model} {A : Around} {E : Value → Shared → Prop} {env : Env}
theorem raiseStmt_ex {s : Shared} {C : Addr} {x : Sem Value} {Q : Flow → Shared → Prop}
    (h : wpAny M A x (RaiseG C fun v s₁ => wpAny M A (raiseNew v : Sem Flow) Q E s₁) E s) : wpAny M A (raiseStmt env (some x) none) Q E s := by
  unfold raiseStmt
  refine wpAny_bind (wpAny_mono h (fun v s₁ h₁ => ?_) fun _ _ x => x)
  obtain ⟨e, dx, vs, K, rfl, he, h1, X, ⟨nm, N, a, b, c, hC⟩, hE⟩ := h₁
  have hCh := X _ _ hC
  have hcB : (Value.ref C :: excBm).contains (.type "BaseException") = true := by rw [List.contains_cons]; simp
  obtain ⟨hp, g, d, tk, os⟩ := s₁
  repeat (first | with_reducible refine wpAny_loadPart_at he ?_ | with_reducible refine wpAny_loadPart_at hCh ?_ | (with_reducible refine wpAny_isSubtype_exc hCh ?_; rw [hcB]) | wp_step)
  rw [h1]
  refine wpAny_pure ?_
  rw [if_neg (by decide)]
  exact wpAny_pure hE
end
section
variable {prog : Program} {w : World} {A : Around} {E : Value → Shared → Prop} {s : Shared} {env : Env}
theorem entry_un : entryFor table "proto.unchain" = some Builtin.«proto.unchain» := entryFor_of_tree (by kernel_rfl)
theorem plain_un : plainId "proto.unchain" = true := by decide +kernel
/-- an exception that is raised while another one is handled -/
theorem raiseNew_in {α : Type} {Q : α → Shared → Prop} {e e0 : Addr} {o o0 : Obj} {vs vs0 : Array Value} (hA : A.handled = some (.ref e0)) (hne : e0 ≠ e) (h0 : s.heap.get? e0 = some o0) (hd0 : o0.data = .fields vs0) (hc0 : vs0[2]? = some .none)
    (he : s.heap.get? e = some o) (hd : o.data = .fields vs) (hsz : 2 < vs.size)
    (h : ∀ h', h'.get? e = some { o with data := .fields (vs.setIfInBounds 2 (.ref e0)) } → (∀ b ob, b ≠ e → s.heap.get? b = some ob → h'.get? b = some ob) → E (.ref e) { s with heap := h' }) : wpAny (model prog w) A (raiseNew (.ref e) : Sem α) Q E s := by
  unfold raiseNew
  refine wpAny_bind (wpAny_handled ?_)
  rw [hA]
  dsimp only
  rw [if_pos (show (Value.ref e0 != Value.ref e) = true from by simp [hne])]
  refine wpAny_bind (wpAny_holding (wpAny_runValue (codeAny_builtin entry_un ?_)))
  rw [Around.under_plainId plain_un _]
  unfold Builtin.«proto.unchain»
  dsimp only
  refine wpAny_bind (wpAny_field h0 hd0 hc0 ?_)
  rw [if_pos (by decide)]
  refine wpAny_bind (wpAny_pure (wpAny_pure ?_))
  have h2 : ∀ h', h' = s.heap.update e (Obj.mapFields (·.setIfInBounds 2 (.ref e0))) → E (.ref e) { s with heap := h' } := fun h' hh => by
    refine h h' ?_ fun b ob hb q => ?_
    · rw [hh, Heap.get?_update_self _ he (Obj.isFreed_of_fields (Obj.data_mapFields hd _))]
      obtain ⟨oc, odi, oda, osl⟩ := o
      dsimp only at hd
      subst hd
      rfl
    · rw [hh, Heap.get?_update_other _ _ (Ne.symm hb)]; exact q
  unfold updateField
  show wpAny _ _ (_ >>= _) _ _ _
  refine wpAny_bind (wpAny_bind (wpAny_load he ?_))
  rw [hd]
  dsimp only
  rw [if_pos hsz]
  exact wpAny_update he (wpAny_throw (h2 _ rfl))
theorem Raise_ex {C : Addr} {x : PySem.Expr} {pos : Pos} {Q : Flow → Shared → Prop} (h : wpAny (model prog w) A (eval x env) (RaiseG C fun v s₁ => wpAny (model prog w) A (raiseNew v : Sem Flow) Q E s₁) E s) :
    wpAny (model prog w) A (exec (.Raise (some x) none pos) env) Q E s := by
  rw [arm_exec_Raise]
  exact wpAny_bind (wpAny_standAt (raiseStmt_ex (wpAny_bind (wpAny_mono h (fun _ _ h₁ => wpAny_bind (wpAny_standAt (wpAny_pure h₁))) fun _ _ e => e))))
end
end
/-! ExcH -/
section
set_option maxRecDepth 100000
/-- an own exception has left a call: what stood in base stands, the frames' objects have other slots -/
structure Flown (base : Heap) (outer : List Env) (C : Addr) (D : Obj → Prop) (c : Value) (e : Addr) (h h' : Heap) : Prop where
  ex : ∃ B d t1 o, base.StaysIn B ∧ B.get? d = some o ∧ D o ∧ base.get? e = none ∧ Fly B outer e (excObj C (some d) #[.ref t1, .none, c, .none, .bool false, .none]) #[.ref t1, .none, c, .none, .bool false, .none] .none h'
  slots : h.UpToSlots h'
abbrev fAddrs (l : List Env) : List Addr := l.filterMap (·.frame)
theorem funFrames_stays {base h h' : Heap} (k : ∀ b o, h.get? b = some o → h'.get? b = some o) {l : List Env} (f : h.FunFrames base l) : h'.FunFrames base l := f.of_keeps fun b o e _ => ⟨o, k b o e, rfl⟩
theorem funFrames_slots {base h h' : Heap} (k : h.UpToSlots h') {l : List Env} (f : h.FunFrames base l) : h'.FunFrames base l := f.of_keeps fun b o e hn => let ⟨_, z⟩ := k b o e hn; ⟨_, z, rfl⟩
theorem funFrames_base' {base B h : Heap} {l : List Env} (f : h.FunFrames base l) (n : ∀ a ∈ fAddrs l, B.get? a = none) : h.FunFrames B l := by
  induction l with
  | nil => trivial
  | cons env r ih =>
    obtain ⟨hk, ⟨L, o, hf, _, ho, hd⟩, hr⟩ := f
    refine ⟨hk, ⟨L, o, hf, n L ?_, ho, hd⟩, ih hr fun a ha => n a ?_⟩
    · show L ∈ List.filterMap _ (env :: r)
      rw [List.filterMap_cons, hf]; exact .head _
    · show a ∈ List.filterMap _ (env :: r)
      rw [List.filterMap_cons, hf]; exact .tail _ ha
section
variable {prog : Program} {w : World} {A : Around} {E : Value → Shared → Prop} {s' : Shared} {base h₀ hr : Heap} {outer : List Env} {L a e d t1 : Addr} {m : Str → Option Value} {name : Str} {scope : Scope} {cd c : Value} {Q : Unit → Shared → Prop} {C : Addr} {o : Obj}
/-- the frame's own env ahead of the callers' -/
theorem frames_push {h : Heap} (F : Fr h₀ L h m) (hb : base.get? L = none) (ff : h.FunFrames base outer) (hk : scope.kind = .function) : h.FunFrames base (envOf name scope L a cd :: outer) := by
  refine ⟨by show scope.kind ≠ .module; rw [hk]; decide, ?_, ff⟩
  obtain ⟨oL, es, ep, hL, hd, _⟩ := F.ns
  exact ⟨L, oL, rfl, hb, hL, fun vs q => by rw [hd] at q; cases q⟩
/-- a new own exception leaves the frame in which it was raised -/
theorem flown_first {D : Obj → Prop} {h₁ : Heap} (hA : A.frames = some outer) (ff : hr.FunFrames base (envOf name scope L a cd :: outer)) (st : base.StaysIn hr)
    (he : hr.get? e = none) (hd : hr.get? d = none) (hde : d ≠ e) (kp : Keep hr s'.heap) (hx : s'.heap.get? e = some (excObj C (some d) #[.ref t1, .none, c, .none, .bool false, .none])) (hdo : s'.heap.get? d = some o) (hD : D o) (hsl : h₁.UpToSlots hr)
    (hQ : ∀ h', Flown base outer C D c e h₁ h' → Q () { s' with heap := h' }) :
    wpAny (model prog w) (A.deeper (envOf name scope L a cd)) (leaving (envOf name scope L a cd) (.ref e)) Q E s' := by
  have ff' := funFrames_stays kp ff
  let F := e :: fAddrs (envOf name scope L a cd :: outer)
  have nd : d ∉ F := fun hm => by
    rcases List.mem_cons.mp hm with rfl | hm
    · exact hde rfl
    · obtain ⟨_, o', ho', _⟩ := ff.mem hm
      rw [hd] at ho'; cases ho'
  have stB : base.StaysIn (hideAll s'.heap F) := fun b ob q => hideAll_get _ (kp _ _ (st _ _ q)) fun hm => by
    rcases List.mem_cons.mp hm with rfl | hm
    · rw [st _ _ q] at he; cases he
    · rw [(ff.mem hm).1] at q; cases q
  refine leave_first (base := hideAll s'.heap F) (oe := excObj C (some d) #[.ref t1, .none, c, .none, .bool false, .none]) (vs := #[.ref t1, .none, c, .none, .bool false, .none]) (outer := outer) (L := L) (Around.frames_deeper hA) (funFrames_base' ff' fun b hb => hideAll_none _ (.tail _ hb)) rfl hx (fun b ob q => of_hideAll _ q) (hideAll_none _ (.head _)) (by simp) fun h' x u => ?_
  refine hQ h' ⟨⟨_, d, t1, o, stB, hideAll_get _ hdo nd, hD, ?_, x⟩, (hsl.trans (Heap.UpToSlots.of_keeps kp)).trans u⟩
  cases q : base.get? e with
  | none => rfl
  | some ob => rw [st _ _ q] at he; cases he
/-- an own exception out of a callee leaves a further frame -/
theorem flown_next {D : Obj → Prop} {h₁ h₂ : Heap} (hA : A.frames = some outer) (x : Flown base (envOf name scope L a cd :: outer) C D c e h₂ s'.heap) (hsl : h₁.UpToSlots h₂) (hQ : ∀ h', Flown base outer C D c e h₁ h' → Q () { s' with heap := h' }) :
    wpAny (model prog w) (A.deeper (envOf name scope L a cd)) (leaving (envOf name scope L a cd) (.ref e)) Q E s' := by
  obtain ⟨⟨B, d, t1, o, k1, k2, k3, k4, x⟩, u⟩ := x
  exact leave_next (Around.frames_deeper hA) rfl (by simp) x fun h' x' u' => hQ h' ⟨⟨B, d, t1, o, k1, k2, k3, k4, x'⟩, (hsl.trans u).trans u'⟩
end
end
/-! PartAt2 -/
section
open PyProof.Rows.LCg
section
variable {prog : Program} {w : World} {A : Around} {s : Shared} {h₀ : Heap} {L : Addr} {m : Str → Option Value} {news : List (Addr × Obj)} {p : Program} {loose : List Str} {mean : ExcName → Option Value} {mg mb : Str → Option Value}
    {E : Value → Shared → Prop}
theorem mkt_use {v : Value} {Q : Value → Shared → Prop} (PO : ProgOk prog) (F : Fr h₀ L s.heap m) (X : (hd.heap_1 w.params).In h₀) (T : Top p loose mean mg mb h₀) (N : News h₀ L s.heap news) (R : Ro A 2) (hv : handedIn v = true)
    (h : ∀ h' tk e d t1 o, s.heap.get? e = none → s.heap.get? d = none → d ≠ e → Keep s.heap h' → h'.get? e = some (excObj 60 (some d) (excVs t1)) → h'.get? d = some o → (hd.heap_1 w.params).In h' → Q (.ref e) { s with heap := h', toks := tk }) :
    wpAny (model prog w) A (call (.ref 60) [v]) Q E s :=
  mk_term _ _ _ _ _ PO (X.keeps F.keep) (T.keeps F.keep) R hv fun h' tk e d t1 o a b c k x y => h h' tk e d t1 o a b c k x y (X.keeps fun b o q => k _ _ (F.keep b o q))
end
def PartAtC2 (prog : Program) (w : World) (p : Program) (loose : List Str) (mean : ExcName → Option Value) (mg mb : Str → Option Value) : Prop :=
  ∀ (A : Around) (s : Shared) (v pv : Value) (t : Tm) (ns : List Int) (base : Heap) (outer : List Env) (E : Value → Shared → Prop) (Q : Value → Shared → Prop),
    ProgOk prog → (hd.heap_1 w.params).In s.heap → Top p loose mean mg mb s.heap → A.frames = some outer → s.heap.FunFrames base outer → base.StaysIn s.heap → Rm A 5 → (∀ i ∈ ns, -1000 ≤ i ∧ i ≤ 1000) → PathV (IsTup s.heap) pv ns → Tv (IsTup s.heap) v t.py →
    (∀ u, sub t ns = some u → ∀ v' h' tk', Keep s.heap h' → Tv (IsTup s.heap) v' u.py → Q v' { s with heap := h', toks := tk' }) →
    (sub t ns = none → ∀ h' tk' e, Flown base outer 60 (fun _ => True) .none e s.heap h' → E (.ref e) { s with heap := h', toks := tk' }) →
    wpAny (model prog w) A (call (.ref 131) [v, pv]) Q E s
def PartJ2 (h₀ : Heap) (ap : Addr) (r : Option Tm) (vs : List Value) (m : Str → Option Value) (news : List (Addr × Obj)) : Prop :=
  news = [] ∧ ∃ ns t v o, IntV vs ns ∧ (∀ i ∈ ns, -1000 ≤ i ∧ i ≤ 1000) ∧ sub t ns = r ∧ Tv (IsTup h₀) v t.py ∧ m = (fun y => if y = Str.ofString "t" then some v else if y = Str.ofString "k" then o else if y = Str.ofString "path" then some (.ref ap) else none)
theorem w78 : True := by
  k_with "M exec Raise some none" => ((fail_if_success (have := endOfPartAt2)); case' FRESH => ((k_here; k_dflt (refine Raise_ex (C := 60) ?_))))
  trivial
theorem w79 : True := by
  k_with "M call ref" => ((fail_if_success (have := endOfPartAt2)); case' FRESH => ((k_here; (with_reducible show wpAny _ _ (call (Value.ref 60) _ _) _ _ _); k_dflt (refine' mkt_use ?P ?F ?X ?T ?N ?R ?v ?_; (case P => assumption); (case F => k_asm); (case X => k_asm); (case T => k_asm); (case N => k_asm); (case R => exact Ro.le (Ro.deeper (Rm.ro (by assumption))) (by omega)); (case v => rfl)); intro h' tk' e' d' t' o' x1' x2' x3' x4' x5' x6' x7'; refine Stop.in ?_)))
  trivial
theorem w80 : True := by
  k_with "M call builtin:len" => ((fail_if_success (have := endOfPartAt2)); case' FRESH => ((k_here; (with_reducible show wpAny _ _ (call (Value.builtin _) [Value.ref _]) _ _ _); k_dflt (refine' len_sym ?t ?z ?_; (case t => exact Fr.tup (by k_asm) (by assumption)); (case z => assumption)); intro t')))
  trivial
theorem w81 : True := by
  k_with "M subscriptTail" => ((fail_if_success (have := endOfPartAt2)); case' FRESH => ((k_here; (with_reducible show wpAny _ _ (subscriptTail _ _ (Value.ref _) (Value.int (_ + 1) _)) _ _ _); k_dflt (refine' item_sym ?t ?z ?a ?b ?_ ?s; (case t => exact Fr.tup (by k_asm) (by assumption)); (case z => assumption); (case a => assumption); (case b => assumption); (case s => with_unfolding_all rfl)); intro v' hv')))
  trivial
section
variable {prog : Program} {w : World} {p : Program} {loose : List Str} {mean : ExcName → Option Value} {mg mb : Str → Option Value}
theorem w82 : True := by
  k_with "M Rest" => ((fail_if_success (have := endOfPartAt2)); case' FRESH => ((refine Stop.in ?_)))
  trivial
set_option maxHeartbeats 4000000 in
theorem partAt2 : PartAtC2 prog w p loose mean mg mb := by
  intro A s v pv t ns base outer E Q PO X T hAf hff hst R hbd hpv hv h hr
  obtain ⟨hA, dA, fA, gA, uA⟩ := A
  obtain rfl : hA = none := R.hh
  obtain ⟨ap, vs, rfl, hpt, hpi⟩ := hpv
  refine wpAny_call ?_
  k_dflt (refine' enter0 (binds := [(Str.ofString "t", v), (Str.ofString "path", .ref ap)]) X T ?ho ?hcd (Rm.room R) ?hb ?hl ?_ ?c1 ?c2 ?c3 ?c4)
  case ho => k_dflt k_is
  case hcd => k_dflt k_is
  case hb => exact BindsTo.of_eq rfl
  case hl => exact locs rfl
  case c1 => rfl
  case c2 => rfl
  case c3 => rfl
  case c4 => decide
  intro L h₁ tk1 F N
  have hbL : base.get? L = none := by
    cases q : base.get? L with
    | none => rfl
    | some o => exact absurd (Nat.lt_of_lt_of_le (Heap.lt_size (hst _ _ q)) F.above) (Nat.lt_irrefl _)
  refine (?_ : let mM' := _; let aA' := _; wpAny mM' aA' _ _ _ _); intro mM' aA'
  k_fold
  k_steps
  refine Stop.out ?_
  refine Rest.ind (PartJ2 s.heap ap (sub t ns)) ?zero ?succ _ _ _ ⟨rfl, ns, t, v, none, hpi, hbd, rfl, hv, part_m0⟩
  case zero =>
    intro m news h' tk hi F' N'
    obtain ⟨rfl, ns', t', v', o, hi, hbd', hs, ht, rfl⟩ := hi
    cases hi
    have hs' : sub t ns = some t' := by rw [← hs]; cases t' <;> rfl
    clear F N hr hs hbd'
    refine (?_ : let mM' := _; let aA' := _; wpAny mM' aA' _ _ _ _); intro mM' aA'
    k_steps
    rename Fr _ _ _ _ => F9
    exact h _ hs' _ _ _ (Fr.keep F9) ht
  case succ =>
    intro v' r m news oI h' tk hi hoI F' N'
    obtain ⟨rfl, ns', t', v1, o, hi, hbd', hs, ht, rfl⟩ := hi
    cases hi with
    | @cons i tki _ ns2 hi =>
      clear hv h hpi hbd N F
      have hbi := hbd' i (.head _)
      have hb1 := hbi.1
      have hb2 := hbi.2
      have hbd2 : ∀ i ∈ ns2, -1000 ≤ i ∧ i ≤ 1000 := fun j hj => hbd' j (.tail _ hj)
      clear hbd' hbi
      obtain ⟨a, kx, kvs, rfl, hx, hk⟩ := Tm.kids_inv ht
      have hkl := hk.length
      have hkf := kids_few t'
      have hz : (Value.str (opOf t') kx :: kvs).length ≤ 1000 := by rw [List.length_cons]; omega
      have hz2 : kvs.length ≤ 1000 := by omega
      rw [sub_cons] at hs
      clear hkf ht
      refine (?_ : let mM' := _; let aA' := _; wpAny mM' aA' _ _ _ _); intro mM' aA'
      k_steps
      · obtain ⟨t1, e1, ht1⟩ := hk.get _ _ (by assumption)
        rw [if_pos (by assumption), e1] at hs
        exact ⟨rfl, ns2, t1, _, some _, hi, hbd2, hs, ht1, part_m⟩
      · rename Fr _ _ _ _ => F9
        refine Stop.out ⟨_, _, _, _, rfl, by assumption, rfl, by assumption, isExc60 _, wpAny_raiseNew_none rfl ?_⟩
        have hn : sub t ns = none := by
          rw [← hs, if_pos (by assumption), List.getElem?_eq_none]
          · rfl
          · rename (¬ _ < _) => hz9
            rw [← hkl]
            simp at hz9; omega
        refine flown_first (D := fun _ => True) (h₁ := s.heap) hAf (frames_push F9 hbL (funFrames_stays (Fr.keep F9) hff) rfl) (fun b o q => F9.keep _ _ (hst b o q)) (by assumption) (by assumption) (by assumption) (by assumption) (by assumption) (by assumption) trivial (Heap.UpToSlots.of_keeps F9.keep) fun h'' fl => ?_
        exact hr hn _ _ _ fl
      · rename Fr _ _ _ _ => F9
        refine Stop.out ⟨_, _, _, _, rfl, by assumption, rfl, by assumption, isExc60 _, wpAny_raiseNew_none rfl ?_⟩
        have hn : sub t ns = none := by rw [← hs, if_neg (by assumption)]
        refine flown_first (D := fun _ => True) (h₁ := s.heap) hAf (frames_push F9 hbL (funFrames_stays (Fr.keep F9) hff) rfl) (fun b o q => F9.keep _ _ (hst b o q)) (by assumption) (by assumption) (by assumption) (by assumption) (by assumption) (by assumption) trivial (Heap.UpToSlots.of_keeps F9.keep) fun h'' fl => ?_
        exact hr hn _ _ _ fl
end
end
theorem endOfPartAt2 : True := trivial
/-! Plain2 -/
section
open PyProof.Rows.LCg
theorem kids_size (u : Tm) : sizes (kidsOf u) + 1 = u.size := by cases u <;> simp [sizes, kidsOf, Tm.size]
theorem kids_plain {u : Tm} (h : u.Plain) : ∀ t ∈ kidsOf u, t.Plain := by
  intro t ht
  cases u with
  | leaf x => cases ht
  | un u => rw [List.mem_singleton.mp ht]; exact h
  | bin a b =>
    rcases List.mem_cons.mp ht with rfl | ht
    · exact h.1
    · rw [List.mem_singleton.mp ht]; exact h.2
theorem cut_no {u : Tm} (h : u.Plain) : ([Str.ofString "", Str.ofString "?"].any (· == Txt.slice (opOf u) none (some 1))) = false := by
  cases u with
  | leaf x => rcases h with rfl | rfl <;> decide +kernel
  | un u => show ([Str.ofString "", Str.ofString "?"].any (· == Txt.slice (Str.ofString "f") none (some 1))) = false; decide +kernel
  | bin a b => show ([Str.ofString "", Str.ofString "?"].any (· == Txt.slice (Str.ofString "g") none (some 1))) = false; decide +kernel
theorem cut_use {prog : Program} {w : World} {A : Around} {E : Value → Shared → Prop} {s : Shared} {h₀ : Heap} {L : Addr} {news : List (Addr × Obj)} {u : Tm} {D : Addr} {t t1 t2 : Tok} {n : Nat} {Q : Value → Shared → Prop} (N : News h₀ L s.heap news)
    (hm : (D, ({ cls := .type "tuple", data := .seq #[.str (Str.ofString "") t1, .str (Str.ofString "?") t2] n } : Obj)) ∈ news) (hp : u.Plain) (h : Q (.bool false) s) :
    wpAny (model prog w) A (compareOp .In (.str (Txt.slice (opOf u) none (some 1)) t) (.ref D)) Q E s :=
  in_tuple_strs (News.isTup N hm) (StrsAre.cons _ _ (StrsAre.cons _ _ StrsAre.nil)) (by rw [cut_no hp]; exact h)
theorem op_line {u : Tm} (h : u.Plain) : (opOf u).length ≤ sizeLine := by
  cases u with
  | leaf x => rcases h with rfl | rfl <;> exact Nat.le_of_ble_eq_true rfl
  | un u => exact Nat.le_of_ble_eq_true rfl
  | bin a b => exact Nat.le_of_ble_eq_true rfl
theorem tail_nw (x : Value) (r : List Value) : twhole (x :: r).length (some 1) none none = false := by
  cases h : twhole (x :: r).length (some 1) none none with
  | false => rfl
  | true => exact absurd (tail_whole h) (fun e => by have := congrArg List.length e; simp at this)
theorem w83 : True := by
  k_with "M call builtin:len" => ((fail_if_success (have := endOfPlain2)); case' FRESH => ((k_here; (with_reducible show wpAny _ _ (call (Value.builtin _) [Value.ref _]) _ _ _); k_dflt (refine' len_sym ?t ?z ?_; (case t => exact Fr.tupP (by assumption) (by k_asm) (by k_asm) (by k_all)); (case z => assumption)); intro t')))
  trivial
theorem w84 : True := by
  k_with "M subscriptTail" => ((fail_if_success (have := endOfPlain2)); case' FRESH => ((k_here; (with_reducible show wpAny _ _ (subscriptTail _ _ (Value.ref _) (Value.int 0 _)) _ _ _); k_dflt (refine' item_tupleT ?k1 ?k2 ?k3 ?k4 ?k5 ?_ ?k6; (case k1 => exact Fr.tupP (by assumption) (by k_asm) (by k_asm) (by k_all)); (case k2 => decide); (case k3 => decide); (case k4 => exact seq_zero' _ _); (case k5 => rfl); (case k6 => with_unfolding_all rfl); k_whole))))
  trivial
theorem w85 : True := by
  k_with "M subscriptTail Name Slice ref ref" => ((fail_if_success (have := endOfPlain2)); case' FRESH => ((k_here; (with_reducible show wpAny _ _ (subscriptTail _ (PySem.Expr.Slice _ _ _ _) (Value.ref _) (Value.ref _)) _ _ _); k_dflt (refine' tup_slice ?F ?N ?t ?p ?q ?k ?z ?w ?e ?y ?_ ?s ?g; (case F => k_asm); (case N => k_asm); (case t => exact Fr.tupP (by assumption) (by k_asm) (by k_asm) (by k_all)); (case p => kmk_part); (case q => kmk_part); (case k => kmk_part); (case z => rfl); (case w => exact tail_nw _ _); (case e => exact tail_slice _ _); (case y => exact Nat.le_trans (m := 1000) (by omega) (by decide)); (case s => with_unfolding_all rfl); (case g => kmk_pure); k_whole); intro D' h' F' N' l1; (try k_lt l1))))
  trivial
theorem w86 : True := by
  k_with "M subscriptTail" => ((fail_if_success (have := endOfPlain2)); case' FRESH => ((k_here; (with_reducible show wpAny _ _ (subscriptTail _ (PySem.Expr.Slice none (some _) none _) (Value.str _ _) (Value.ref _)) _ _ _); k_dflt (refine' slice_strN_ns (hsz := ?hsz) (s := ⟨_, _, _, _, _⟩) ?F ?N ?_ ?hs ?ht; (case F => k_asm); (case N => k_asm); (case hs => with_unfolding_all rfl); (case ht => intro _; with_unfolding_all rfl); (case hsz => exact op_line (by assumption))); intro h' t' k' F' N')))
  trivial
theorem w87 : True := by
  k_with "M compareOp In str ref" => ((fail_if_success (have := endOfPlain2)); case' FRESH => ((k_here; k_dflt (refine' cut_use ?N ?m ?p ?_; (case N => k_asm); (case m => k_mem); (case p => assumption); k_whole))))
  trivial
theorem w88 : True := by
  k_with "M exec While Compare" => ((fail_if_success (have := endOfPlain2)); case' FRESH => ((refine Stop.in ?_)))
  trivial
section
variable {prog : Program} {w : World} {p : Program} {loose : List Str} {mean : ExcName → Option Value} {mg mb : Str → Option Value}
set_option maxHeartbeats 4000000 in
theorem plain_spec : PlainC prog w p loose mean mg mb := by
  intro A s v t E Q X T R hsz hpl hv h
  obtain ⟨hA, dA, fA, gA, uA⟩ := A
  obtain rfl : hA = none := R.hh
  refine wpAny_call ?_
  k_dflt (refine' enter0 (binds := [(Str.ofString "thing", v)]) X T ?ho ?hcd (Rm.room R) ?hb ?hl ?_ ?c1 ?c2 ?c3 ?c4)
  case ho => k_dflt k_is
  case hcd => k_dflt k_is
  case hb => exact BindsTo.of_eq rfl
  case hl => exact locs rfl
  case c1 => rfl
  case c2 => rfl
  case c3 => rfl
  case c4 => decide
  intro L h₁ tk1 F N
  refine (?_ : let mM' := _; let aA' := _; wpAny mM' aA' _ _ _ _); intro mM' aA'
  k_fold
  k_steps
  rename Fr _ _ _ _ => F9
  rename News _ _ _ _ => N9
  refine Stop.out ?_
  refine While_inv2 (J := PlainJ s.heap _ v) (n₀ := t.size) F9 N9 ⟨none, [v], [t], 0, [], ?_, rfl, (fun _ h => nomatch h), .cons (hv.mono fun _ _ y => .inl y) .nil, by simpa using hpl, by simp [sizes], by simpa [sizes] using hsz⟩ ?turn
  · funext y
    by_cases e : y = Str.ofString "one"
    · subst e; rfl
    · rw [if_neg e]
      by_cases e2 : y = Str.ofString "waiting"
      · rw [if_pos e2, if_pos e2]
      · rw [if_neg e2, if_neg e2]
        by_cases e3 : y = Str.ofString "thing"
        · subst e3; rfl
        · rw [if_neg e3]
          show (match y == Str.ofString "thing" with | true => some v | false => none) = none
          cases hq : (y == Str.ofString "thing") with
          | true => exact absurd (by simpa using hq) e3
          | false => rfl
  clear F9 N9
  intro n m₁ news₁ h₁ tk₁ F N hJ
  obtain ⟨o, vs, ts, k, tl, rfl, rfl, hAll, hvs, hpls, rfl, hszs⟩ := hJ
  rcases List.eq_nil_or_concat vs with rfl | ⟨p, v1, rfl⟩
  · refine (?_ : let mM' := _; let aA' := _; wpAny mM' aA' _ _ _ _); intro mM' aA'
    k_steps
    rename Fr _ _ _ _ => F9
    exact h _ _ (Fr.keep F9)
  · rw [List.concat_eq_append] at hvs N
    obtain ⟨us, u, rfl, hus, hu⟩ := hvs.snoc
    have hlen := hus.len
    rw [sizes_app] at hszs
    have hsu : sizes [u] = u.size := by simp [sizes]
    rw [hsu] at hszs
    have hpu : u.Plain := hpls _ (by simp)
    have hpus : ∀ t ∈ us, t.Plain := fun t ht => hpls _ (by simp [ht])
    have hp1 : p.length ≤ 1000 := by omega
    have hgt : (0 : Int) < ((p ++ [v1]).length : Nat) := by simp
    have hgt2 : (p ++ [v1]).length ≤ 1001 := by simp; omega
    obtain ⟨a, kx, kv, rfl, hx, hkv⟩ := Tm.kids_inv hu
    have hkl := hkv.length
    have hkf := kids_few u
    have hz9 : (Value.str (opOf u) kx :: kv).length ≤ 1000 := by rw [List.length_cons]; omega
    refine (?_ : let mM' := _; let aA' := _; wpAny mM' aA' _ _ _ _); intro mM' aA'
    k_steps
    · exfalso
      rename (_ = (0 : Int)) => hz
      simp at hz
      omega
    · rename Fr _ _ _ _ => F9
      rename News _ _ _ _ => N9
      obtain ⟨kk, hsub⟩ : ∃ kk, News s.heap L _ ((_, PySem.W.listOf (p ++ kv).toArray kk) :: tl) := ⟨_, News.sub N9 (by k_all)⟩
      refine ⟨_, _, _, _, sizes (us ++ kidsOf u), rfl, F9, hsub, ?_, ⟨some (.ref a), p ++ kv, us ++ kidsOf u, kk, tl, ?_, rfl, hAll, hus.append hkv, ?_, rfl, ?_⟩⟩
      · have := kids_size u
        simp only [sizes_app, hsu]; omega
      · funext y
        by_cases e : y = Str.ofString "one"
        · rw [if_pos e, if_pos e]
        · rw [if_neg e, if_neg e, if_neg e]
      · intro t' ht'
        rcases List.mem_append.mp ht' with q | q
        · exact hpus _ q
        · exact kids_plain hpu _ q
      · have := kids_size u
        simp only [sizes_app] at hszs ⊢; omega
end
end
theorem endOfPlain2 : True := trivial
/-! Judge -/
section
open PyProof.Rows.LCg
theorem instLift {h h' : Heap} {x : Addr} {ox : Obj} {C : Addr} {od : Option Obj} (I : InstAt h x ox C od) (k : Keep h h') : InstAt h' x ox C od := by
  obtain ⟨a, b, c, d⟩ := I
  refine ⟨k _ _ a, b, c, ?_⟩
  cases hq : ox.dict with
  | none => cases od with
    | none => trivial
    | some o => rw [hq] at d; exact d
  | some dx => cases od with
    | none => rw [hq] at d; exact d
    | some o => rw [hq] at d; exact k _ _ d
theorem dictOf_keep {prog : Program} {w : World} {h h' : Heap} {a : Addr} {kvs : List (Str × Value)} (x : h.DictOf (strKind prog w) a kvs) (k : Keep h h') : h'.DictOf (strKind prog w) a kvs := let ⟨o, es, ep, ho, r⟩ := x; ⟨o, es, ep, k _ _ ho, r⟩
def t0 : Str := Str.ofString "t0"
def t1 : Str := Str.ofString "t1"
/-- the law's Steps, its Judge, and what the judge knows -/
structure JAt (prog : Program) (w : World) (h : Heap) (st J td rd R : Addr) (p0 p1 vl vr : Value) : Prop where
  steps : ∃ a t n dS, InstAt h st (instObj 283 dS) 283 (some (dictOf [⟨a, .str (Str.ofString "judge") t, .ref J⟩] n))
  judge : ∃ a b t u n dJ, InstAt h J (instObj 222 dJ) 222 (some (dictOf [⟨a, .str (Str.ofString "rules") t, .ref rd⟩, ⟨b, .str (Str.ofString "told") u, .ref td⟩] n))
  rule : ∃ a b c d t u x y n dR vn v4, InstAt h R (instObj 309 dR) 309 (some (dictOf [⟨a, .str (Str.ofString "name") t, vn⟩, ⟨b, .str (Str.ofString "left") u, vl⟩, ⟨c, .str (Str.ofString "right") x, vr⟩, ⟨d, .str (Str.ofString "needs") y, v4⟩] n))
  told : h.DictOf (strKind prog w) td [(t0, p0), (t1, p1)]
  rules : h.DictOf (strKind prog w) rd [(Str.ofString "swap", .ref R)]
  tds : (td == sysModules) = false
  rds : (rd == sysModules) = false
  left : Tv (IsTup h) vl (Tm.bin (.leaf qx) (.leaf qy)).py
  right : Tv (IsTup h) vr (Tm.bin (.leaf qy) (.leaf qx)).py
theorem JAt.keep {prog : Program} {w : World} {h h' : Heap} {st J td rd R : Addr} {p0 p1 vl vr : Value} (x : JAt prog w h st J td rd R p0 p1 vl vr) (k : Keep h h') : JAt prog w h' st J td rd R p0 p1 vl vr where
  steps := x.steps.imp fun _ x => x.imp fun _ x => x.imp fun _ x => x.imp fun _ i => instLift i k
  judge := x.judge.imp fun _ x => x.imp fun _ x => x.imp fun _ x => x.imp fun _ x => x.imp fun _ x => x.imp fun _ i => instLift i k
  rule := x.rule.imp fun _ x => x.imp fun _ x => x.imp fun _ x => x.imp fun _ x => x.imp fun _ x => x.imp fun _ x => x.imp fun _ x => x.imp fun _ x => x.imp fun _ x => x.imp fun _ x => x.imp fun _ x => x.imp fun _ i => instLift i k
  told := dictOf_keep x.told k
  rules := dictOf_keep x.rules k
  tds := x.tds
  rds := x.rds
  left := x.left.mono fun _ _ y => y.keeps k
  right := x.right.mono fun _ _ y => y.keeps k
section
variable {prog : Program} {w : World} {A : Around} {s : Shared} {h₀ : Heap} {L : Addr} {m : Str → Option Value} {E : Value → Shared → Prop}
theorem notIn_use {d : Addr} {kvs : List (Str × Value)} {x : Str} {t : Tok} {b : Bool} {Q : Value → Shared → Prop} (F : Fr h₀ L s.heap m) (hd : h₀.DictOf (strKind prog w) d kvs) (hs : (d == sysModules) = false) (hb : (!(valueAt kvs x).isSome) = b)
    (h : Q (.bool b) { s with toks := s.toks + 1 }) : wpAny (model prog w) A (compareOp .NotIn (.str x t) (.ref d)) Q E s :=
  wpAny_notIn_of (strKind_is _ _ _ _) hs (dictOf_keep hd F.keep).mapOf (by rw [hb]; exact h)
theorem dsub_use {value slice : PySem.Expr} {d : Addr} {kvs : List (Str × Value)} {x : Str} {t : Tok} {v : Value} {Q : Value → Shared → Prop} (F : Fr h₀ L s.heap m) (hd : h₀.DictOf (strKind prog w) d kvs) (hv : valueAt kvs x = some v)
    (h : Q v { s with toks := s.toks + 1 }) (hs : subscripted slice false (.ref d) (.str x t) = operate [.ref d, .str x t] (getItem (.ref d) (.str x t))) : wpAny (model prog w) A (subscriptTail value slice (.ref d) (.str x t)) Q E s :=
  tail_any (dictOf_keep hd F.keep).typeIs slot_dict_getitem.lookup (wpAny_getItem_of (strKind_is _ _ _ _) (dictOf_keep hd F.keep).mapOf hv h) hs
end
theorem w89 : True := by
  k_with "M k_inst" => (case' FRESH => (exact instLift (by assumption) (Fr.keep (by k_asm))))
  trivial
theorem w90 : True := by
  k_with "M compareOp NotIn str ref" => (case' FRESH => ((k_here; k_dflt (refine' notIn_use ?F ?d ?s ?b ?_; (case F => k_asm); (case d => assumption); (case s => assumption); (case b => first | assumption | kernel_rfl)))))
  trivial
theorem w91 : True := by
  k_with "M subscriptTail" => (case' FRESH => ((k_here; (with_reducible show wpAny _ _ (subscriptTail _ _ (Value.ref _) (Value.str _ _)) _ _ _); k_dflt (refine' dsub_use ?F ?d ?v ?_ ?s; (case F => k_asm); (case d => assumption); (case v => first | assumption | kernel_rfl); (case s => with_unfolding_all rfl)))))
  trivial
/-- Judge.told_sides -/
def ToldC (prog : Program) (w : World) (p : Program) (loose : List Str) (mean : ExcName → Option Value) (mg mb : Str → Option Value) : Prop :=
  ∀ (A : Around) (s : Shared) (st J td rd R : Addr) (p0 p1 vl vr pv vn : Value) (x : Str) (tx : Tok) (E : Value → Shared → Prop) (Q : Value → Shared → Prop),
    (hd.heap_1 w.params).In s.heap → Top p loose mean mg mb s.heap → Rm A 1 → JAt prog w s.heap st J td rd R p0 p1 vl vr → valueAt [(t0, p0), (t1, p1)] x = some pv → handedIn pv = true →
    (∀ h' tk', Keep s.heap h' → Q pv { s with heap := h', toks := tk' }) →
    wpAny (model prog w) A (call (.ref 197) [.ref J, .str x tx, vn]) Q E s
section
variable {prog : Program} {w : World} {p : Program} {loose : List Str} {mean : ExcName → Option Value} {mg mb : Str → Option Value}
set_option maxHeartbeats 4000000 in
theorem told_spec : ToldC prog w p loose mean mg mb := by
  intro A s st J td rd R p0 p1 vl vr pv vn x tx E Q X T Rm' Jt hx hpv h
  obtain ⟨hA, dA, fA, gA, uA⟩ := A
  obtain rfl : hA = none := Rm'.hh
  obtain ⟨_, _, _, _, _, _, ij⟩ := Jt.judge
  have hd1 := Jt.told
  have hd2 := Jt.tds
  have hb : (!(valueAt [(t0, p0), (t1, p1)] x).isSome) = false := by rw [hx]; rfl
  clear Jt
  refine wpAny_call ?_
  k_dflt (refine' enter0 (binds := [(Str.ofString "self", .ref J), (Str.ofString "label", .str x tx), (Str.ofString "place", vn)]) X T ?ho ?hcd (Rm.room Rm') ?hb ?hl ?_ ?c1 ?c2 ?c3 ?c4)
  case ho => k_dflt k_is
  case hcd => k_dflt k_is
  case hb => exact BindsTo.of_eq rfl
  case hl => exact locs rfl
  case c1 => rfl
  case c2 => rfl
  case c3 => rfl
  case c4 => decide
  intro L h₁ tk1 F N
  refine (?_ : let mM' := _; let aA' := _; wpAny mM' aA' _ _ _ _); intro mM' aA'
  k_fold
  k_steps
  rename Fr _ _ _ _ => F9
  exact h _ _ (Fr.keep F9)
end
end
/-! DictP -/
section
set_option maxRecDepth 100000
/-! dict(pairs): pairs a tuple or a list of written 2-tuples with strs for keys -/
section
variable {prog : Program} {w : World} {A : Around} {E : Value → Shared → Prop} {s : Shared}
theorem keys_tuple {a : Addr} {xs : Array Value} {Q : Option Value → Shared → Prop} (hx : IsTup s.heap a xs) (hdn : ∀ o, s.heap.get? a = some o → o.dict = none) (hA : A.handled = none)
    (h : ∀ h' tk, Keep s.heap h' → Q none { s with heap := h', toks := tk }) : wpAny (model prog w) A (getAttr? (.ref a) "keys") Q E s := by
  obtain ⟨o, ho, hc, k, hd⟩ := hx
  have hdn := hdn o ho
  obtain ⟨c, dct, dat, sl⟩ := o
  simp only at hc hd hdn
  subst hc hd hdn
  obtain ⟨hp, g, d, tk, os⟩ := s
  have hT : ∀ tk', (⟨hp, g, d, tk', os⟩ : Shared).TypeIs (.ref a) "tuple" := fun _ => ⟨_, ho, rfl⟩
  have f1 := PySem.sub_AttributeError
  have f3 := PySem.F.slot_tuple_getattribute.lookup
  have f4 := PySem.F.slot_tuple_getattribute.bind (.ref a)
  have f5 := PySem.am_tuple_getattr_none
  have hmiss : typeLookup (.type "tuple") "keys" = pure none := by rw [typeLookup_type, builtinLookup_eq_fast]; kernel_rfl
  unfold getAttr? getAttrBy? getAttrBy
  repeat (any_goals (first | assumption | exact hT _ | ((with_reducible show wpAny _ _ (call (Value.builtin "tuple.__getattribute__") _ _) _ _ _); refine call_meets PySem.F.slot_tuple_getattribute (hT _) PySem.am_entry_tuple_getattribute (PySem.F.args_tuple_getattribute_2 _ _) (PySem.meets_getattribute_miss_tuple a xs k sl "keys" _ hmiss (by decide +kernel)) ⟨ho, hA, fun h' tk' e hx' => ?_⟩) | wp_step))
  obtain ⟨t', u', he⟩ := hx'.there
  show wpAny _ _ (getattributeRaised _ _ _ _ _ _ _) _ _ _
  unfold getattributeRaised
  repeat (any_goals (first | assumption | wp_step))
  exact h _ _ hx'.keeps
theorem keys_list {a : Addr} {xs : Array Value} {Q : Option Value → Shared → Prop} (hx : s.heap.IsList a xs) (hdn : ∀ o, s.heap.get? a = some o → o.dict = none) (hA : A.handled = none)
    (h : ∀ h' tk, Keep s.heap h' → Q none { s with heap := h', toks := tk }) : wpAny (model prog w) A (getAttr? (.ref a) "keys") Q E s := by
  obtain ⟨o, ho, hc, k, hd⟩ := hx
  have hdn := hdn o ho
  obtain ⟨c, dct, dat, sl⟩ := o
  simp only at hc hd hdn
  subst hc hd hdn
  obtain ⟨hp, g, d, tk, os⟩ := s
  have hT : ∀ tk', (⟨hp, g, d, tk', os⟩ : Shared).TypeIs (.ref a) "list" := fun _ => ⟨_, ho, rfl⟩
  have f1 := PySem.sub_AttributeError
  have f3 := PySem.F.slot_list_getattribute.lookup
  have f4 := PySem.F.slot_list_getattribute.bind (.ref a)
  have f5 := PySem.am_list_getattr_none
  have hmiss : typeLookup (.type "list") "keys" = pure none := by rw [typeLookup_type, builtinLookup_eq_fast]; kernel_rfl
  unfold getAttr? getAttrBy? getAttrBy
  repeat (any_goals (first | assumption | exact hT _ | ((with_reducible show wpAny _ _ (call (Value.builtin "list.__getattribute__") _ _) _ _ _); refine call_meets PySem.F.slot_list_getattribute (hT _) PySem.am_entry_list_getattribute (PySem.F.args_list_getattribute_2 _ _) (PySem.meets_getattribute_miss_list a xs k sl "keys" _ hmiss (by decide +kernel)) ⟨ho, hA, fun h' tk' e hx' => ?_⟩) | wp_step))
  obtain ⟨t', u', he⟩ := hx'.there
  show wpAny _ _ (getattributeRaised _ _ _ _ _ _ _) _ _ _
  unfold getattributeRaised
  repeat (any_goals (first | assumption | wp_step))
  exact h _ _ hx'.keeps
theorem entry_dul : entryFor table "dict.update.loop" = some Builtin.«dict.update.loop» := entryFor_of_tree (by kernel_rfl)
theorem plain_dul : plainId "dict.update.loop" = true := by decide +kernel
def PairAt (h : Heap) (v : Value) (x : Str × Value) : Prop := ∃ T t, v = .ref T ∧ IsTup h T #[.str x.1 t, x.2]
theorem dict_loop {R : Result → Shared → Prop} {I : Addr} {fp : List Addr} {vs : List Value} {prs : List (Str × Value)} {P : Nat → Value → Prop} {St : Nat → Heap → Prop} (W : Walks prog w A.in1 I fp [I] vs.length P St) (d : Addr) (hdf : d ∉ fp)
    (hP : ∀ (i : Nat) (v : Value), P i v → vs[i]? = some v) (hlen : prs.length = vs.length) (hnd : (prs.map (·.1)).Nodup) (hz : vs.length ≤ 1000) (h₀ : Heap) (hprs : ∀ (i : Nat) (v : Value) (x : Str × Value), vs[i]? = some v → prs[i]? = some x → PairAt h₀ v x)
    (hne : ∀ b o, h₀.get? b = some o → b ≠ d ∧ b ≠ I) :
    ∀ (k i : Nat) (h : Heap) (tk : Nat), vs.length - i = k → i ≤ vs.length → St i h → h.DictOf (strKind prog w) d (prs.take i) → Keep h₀ h →
      (∀ h' tk', h'.DictOf (strKind prog w) d prs → Keep h₀ h' → R (.ok (.ret .none)) { s with heap := h', toks := tk' }) →
      codeAny (model prog w) A (.builtin "dict.update.loop" ⟨[.ref d, .ref I, rawInt (i : Int), .none], []⟩) R { s with heap := h, toks := tk } := by
  have hs : (1000 : Nat) ≤ sizeLine := by decide
  intro k
  induction k with
  | zero =>
    intro i h tk hk hi hst hd hkp hR
    have hin : i = vs.length := by omega
    subst hin
    refine codeAny_builtin entry_dul ?_
    rw [Around.under_plainId plain_dul _]
    show wpAny _ A.in1 (pyNext (.ref I) >>= _) _ _ _
    refine wpAny_bind (W.done _ _ _ hst fun h' tk' hk' => ?_)
    show wpAny _ A.in1 (Builtin.Dict.addKeywords d [] >>= _) _ _ _
    refine wpAny_bind (wpAny_pure (wpAny_pure (hR h' tk' ?_ fun b o e => hk' b o (by simp [(hne b o e).2]) (hkp b o e))))
    rw [← hlen, List.take_length] at hd
    obtain ⟨o, es, ep, ho, r⟩ := hd
    exact ⟨o, es, ep, hk' d o (fun q => hdf (by rw [List.mem_singleton.mp q]; exact W.sub _ (.head _))) ho, r⟩
  | succ k ih =>
    intro i h tk hk hi hst hd hkp hR
    have hlt : i < vs.length := by omega
    have hlt2 : i < prs.length := by omega
    refine codeAny_builtin entry_dul ?_
    rw [Around.under_plainId plain_dul _]
    show wpAny _ A.in1 (pyNext (.ref I) >>= _) _ _ _
    refine wpAny_bind (W.item i _ _ _ hlt hst fun v h' tk' hv hst' hk' => ?_)
    have hkp' : Keep h₀ h' := fun b o e => hk' b o (by simp [(hne b o e).2]) (hkp b o e)
    obtain ⟨T, t, rfl, hT⟩ := hprs i v prs[i] (hP i v hv) (List.getElem?_eq_getElem hlt2)
    have hT' : IsTup h' T #[.str prs[i].1 t, prs[i].2] := hT.keeps hkp'
    have hd' : h'.DictOf (strKind prog w) d (prs.take i) := by
      obtain ⟨o, es, ep, ho, r⟩ := hd
      exact ⟨o, es, ep, hk' d o (fun q => hdf (by rw [List.mem_singleton.mp q]; exact W.sub _ (.head _))) ho, r⟩
    obtain ⟨oT, hoT, hcT, nT, hdT⟩ := id hT'
    show wpAny _ A.in1 (holding [Value.ref T] _ >>= _) _ _ _
    refine wpAny_bind (wpAny_holding ?_)
    refine wpAny_bind (wpAny_tryCatch ?_)
    unfold Builtin.Dict.pairItems
    refine wpAny_bind (wpAny_typeOf (T := "tuple") ⟨oT, hoT, hcT⟩ ?_)
    rw [if_pos (by decide)]
    unfold seqItems?
    refine wpAny_bind (wpAny_bind (wpAny_load hoT ?_))
    rw [hdT]
    refine wpAny_pure (wpAny_pure ?_)
    show wpAny _ _ (holding [Value.str prs[i].1 t, prs[i].2] (dictSet d (Value.str prs[i].1 t) prs[i].2)) _ _ _
    refine wpAny_holding ?_
    unfold dictSet
    refine wpAny_holding (wpAny_bind ((strKind prog w).pyHash (k := prs[i].1) (strKind_is _ _ _ _) ?_))
    have hany : (prs.take i).any (fun kv => kv.1 = prs[i].1) = false := by
      rw [List.any_eq_false]
      intro kv hkv hq
      obtain ⟨j, hj, rfl⟩ := List.getElem_of_mem hkv
      rw [List.length_take] at hj
      have hji : j < i := by omega
      rw [List.getElem_take, decide_eq_true_eq] at hq
      have := List.pairwise_iff_getElem.mp hnd j i (by rw [List.length_map]; omega) (by rw [List.length_map]; omega) hji
      rw [List.getElem_map, List.getElem_map] at this
      exact this hq
    have hst1 : stored (prs.take i) prs[i].1 prs[i].2 = prs.take (i + 1) := by
      unfold stored
      rw [hany, List.take_succ_eq_append_getElem hlt2]
      rfl
    refine wpAny_dictSetHashed_pairs (kvs := prs.take i) (strKind_is _ _ _ _) hd' (fun h'' hd'' hsb => ?_) (by rw [List.length_take]; omega)
    rw [hst1] at hd''
    refine wpAny_pure ⟨plainId_quiet plain_dul _, ?_⟩
    have ei : rawInt ((i : Int) + 1) = rawInt ((i + 1 : Nat) : Int) := by rw [Int.natCast_succ]
    rw [ei]
    exact ih (i + 1) h'' _ (by omega) (by omega) (W.frame _ _ _ hst' fun b hb o e => by rw [hsb.2 b (fun q => hdf (q ▸ hb))]; exact e) hd'' (fun b o e => by rw [hsb.2 b (hne b o e).1]; exact hkp' b o e) hR
end
section
variable {prog : Program} {w : World} {A : Around} {E : Value → Shared → Prop} {s : Shared}
/-- a source of pairs -/
def PairSrc (h : Heap) (a : Addr) (vs : List Value) : Prop := (∃ n sl, h.get? a = some { cls := .type "tuple", dict := none, data := .seq vs.toArray n, slots := sl }) ∨ ∃ n sl, h.get? a = some { cls := .type "list", dict := none, data := .seq vs.toArray n, slots := sl }
theorem call_dict_pairs {a : Addr} {vs : List Value} {prs : List (Str × Value)} {Q : Value → Shared → Prop} (hh : A.handled = none) (ha : PairSrc s.heap a vs) (hlen : prs.length = vs.length) (hnd : (prs.map (·.1)).Nodup) (hz : vs.length ≤ 1000)
    (hprs : ∀ (i : Nat) (v : Value) (x : Str × Value), vs[i]? = some v → prs[i]? = some x → PairAt s.heap v x)
    (h : ∀ d h' tk, s.heap.get? d = none → d = s.heap.objs.size → h'.DictOf (strKind prog w) d prs → Keep s.heap h' → Q (.ref d) { s with heap := h', toks := tk }) :
    wpAny (model prog w) A (call (.type "dict") [.ref a]) Q E s := by
  have hlt : a < s.heap.objs.size := by rcases ha with ⟨n, sl, ha⟩ | ⟨n, sl, ha⟩ <;> exact Heap.lt_size ha
  refine callType_codes (Q₁ := fun obj s₁ => obj = .ref s.heap.objs.size ∧ s₁ = { s with heap := s.heap.push { cls := .type "dict", data := .dict #[] } }) PySem.F.kt_called_dict (PySem.F.kt_typeCall_dict_1 _) PySem.F.entry_dict_init (kt_code_dict_new _ ⟨rfl, rfl⟩) ?_
  rintro obj s₁ ⟨rfl, rfl⟩
  have hnew : (s.heap.push { cls := .type "dict", data := .dict #[] }).DictOf (strKind prog w) s.heap.objs.size [] := Heap.DictOf.new s.heap
  refine ⟨hnew.typeIs, PySem.F.args_dict_init_2 _ _, ?_⟩
  unfold Builtin.«dict.__init__»
  refine wpAny_bind ?_
  unfold Builtin.Dict.selfAndRest
  refine wpAny_bind (wpAny_notOrdered_dict hnew.typeIs ?_)
  show wpAny _ _ (pure (s.heap.objs.size, [Value.ref a])) _ _ _
  refine wpAny_pure ?_
  show wpAny _ _ (Builtin.Dict.updateFrom "dict.__init__" s.heap.objs.size (.ref a) [] .none) _ _ _
  unfold Builtin.Dict.updateFrom
  have hk0 : Keep s.heap (s.heap.push { cls := .type "dict", data := .dict #[] }) := fun b o e => Heap.get?_push_of_some _ e
  have fin : ∀ (h₂ : Heap) (tk : Nat) (I : Addr) (fp : List Addr) (P : Nat → Value → Prop) (St : Nat → Heap → Prop), Keep (s.heap.push { cls := .type "dict", data := .dict #[] }) h₂ → s.heap.objs.size + 1 ≤ I → Walks prog w A.in1.in1 I fp [I] vs.length P St → St 0 h₂ → s.heap.objs.size ∉ fp → (∀ (i : Nat) (v : Value), P i v → vs[i]? = some v) →
      codeAny (model prog w) A.in1 (.builtin "dict.update.loop" ⟨[.ref s.heap.objs.size, .ref I, rawInt ((0 : Nat) : Int), .none], []⟩) (wants (fun r s₂ => r = .none ∧ Q (.ref s.heap.objs.size) s₂) E) { s with heap := h₂, toks := tk } := by
    intro h₂ tk I fp P St hk hI W hst hdf hP
    refine dict_loop W s.heap.objs.size hdf hP hlen hnd hz s.heap hprs (fun b o e => ?_) _ 0 h₂ tk rfl (Nat.zero_le _) hst ?_ (fun b o e => hk b o (hk0 b o e)) fun h' tk' hd hkp => ⟨rfl, h _ h' tk' (Heap.get?_none_of_le (Nat.le_refl _)) rfl hd hkp⟩
    · have := Heap.lt_size e
      exact ⟨Nat.ne_of_lt this, Nat.ne_of_lt (Nat.lt_of_lt_of_le this (Nat.le_trans (Nat.le_succ _) hI))⟩
    · rw [List.take_zero]
      obtain ⟨o, es, ep, ho, r⟩ := hnew
      exact ⟨o, es, ep, hk _ _ ho, r⟩
  rcases ha with ⟨n, sl, ha⟩ | ⟨n, sl, ha⟩
  · refine wpAny_bind (wpAny_typeOf (T := "tuple") ⟨_, hk0 _ _ ha, rfl⟩ ?_)
    rw [if_pos (by decide)]
    refine wpAny_bind (keys_tuple (xs := vs.toArray) ⟨_, hk0 _ _ ha, rfl, n, rfl⟩ (fun o e => by rw [hk0 _ _ ha] at e; cases e; rfl) hh fun h₁ tk₁ k₁ => ?_)
    show wpAny _ _ (rule _ >>= _) _ _ _
    refine wpAny_bind (wpAny_rule (wpAny_bind (wpAny_pyIter_tuple (items := vs.toArray) ⟨_, k₁ _ _ (hk0 _ _ ha), rfl, n, rfl⟩ (wpAny_pure ⟨plainId_quiet plain_dul _, ?_⟩))))
    have hsz : s.heap.objs.size < h₁.objs.size := Heap.lt_size (k₁ _ _ (Heap.get?_push_size s.heap (o := { cls := .type "dict", data := .dict #[] }) rfl))
    have hne : a ≠ h₁.objs.size := Nat.ne_of_lt (Nat.lt_trans hlt hsz)
    have W := Walks.tuple (prog := prog) (w := w) (A := A.in1.in1) hh h₁.objs.size a hne vs.toArray
    have e : vs.toArray.size = vs.length := List.size_toArray ..
    rw [e] at W
    refine fin _ _ _ _ _ _ (fun b o q => Heap.get?_push_of_some _ (k₁ _ _ q)) (Nat.succ_le_of_lt hsz) W ⟨⟨_, Heap.get?_push_size _ rfl, rfl, rfl⟩, ⟨_, Heap.get?_push_of_some _ (k₁ _ _ (hk0 _ _ ha)), rfl, n, rfl⟩⟩ ?_ (fun i v hv => by simpa using hv)
    simp only [List.mem_cons, List.not_mem_nil, or_false, not_or]
    exact ⟨Nat.ne_of_lt hsz, Nat.ne_of_gt hlt⟩
  · refine wpAny_bind (wpAny_typeOf (T := "list") ⟨_, hk0 _ _ ha, rfl⟩ ?_)
    rw [if_pos (by decide)]
    refine wpAny_bind (keys_list (xs := vs.toArray) ⟨_, hk0 _ _ ha, rfl, n, rfl⟩ (fun o e => by rw [hk0 _ _ ha] at e; cases e; rfl) hh fun h₁ tk₁ k₁ => ?_)
    show wpAny _ _ (rule _ >>= _) _ _ _
    refine wpAny_bind (wpAny_rule (wpAny_bind (wpAny_pyIter_list (items := vs.toArray) ⟨_, k₁ _ _ (hk0 _ _ ha), rfl, n, rfl⟩ (wpAny_pure ⟨plainId_quiet plain_dul _, ?_⟩))))
    have hsz : s.heap.objs.size < h₁.objs.size := Heap.lt_size (k₁ _ _ (Heap.get?_push_size s.heap (o := { cls := .type "dict", data := .dict #[] }) rfl))
    have hne : a ≠ h₁.objs.size := Nat.ne_of_lt (Nat.lt_trans hlt hsz)
    have W := Walks.list (prog := prog) (w := w) (A := A.in1.in1) hh h₁.objs.size a hne vs.toArray
    have e : vs.toArray.size = vs.length := List.size_toArray ..
    rw [e] at W
    refine fin _ _ _ _ _ _ (fun b o q => Heap.get?_push_of_some _ (k₁ _ _ q)) (Nat.succ_le_of_lt hsz) W ⟨⟨_, Heap.get?_push_size _ rfl, rfl, rfl⟩, ⟨_, Heap.get?_push_of_some _ (k₁ _ _ (hk0 _ _ ha)), rfl, n, rfl⟩⟩ ?_ (fun i v hv => by simpa using hv)
    simp only [List.mem_cons, List.not_mem_nil, or_false, not_or]
    exact ⟨Nat.ne_of_lt hsz, Nat.ne_of_gt hlt⟩
end
end
/-! RuleS -/
section
open PyProof.Rows.LCg
/-- placed upon a variable -/
def PlacedV (prog : Program) (w : World) (p : Program) (loose : List Str) (mean : ExcName → Option Value) (mg mb : Str → Option Value) (q : Str) : Prop :=
  ∀ (A : Around) (s : Shared) (pv v : Value) (d : Addr) (kvs : List (Str × Value)) (E : Value → Shared → Prop) (Q : Value → Shared → Prop),
    (hd.heap_1 w.params).In s.heap → Top p loose mean mg mb s.heap → Rm A 2 → Tv (IsTup s.heap) pv (Tm.leaf q).py → s.heap.DictOf (strKind prog w) d kvs → (d == sysModules) = false → valueAt kvs q = some v → handedIn v = true →
    (∀ h' tk', Keep s.heap h' → Q v { s with heap := h', toks := tk' }) →
    wpAny (model prog w) A (call (.ref 119) [pv, .ref d]) Q E s
theorem w92 : True := by
  k_with "M call ref" => ((fail_if_success (have := endOfRuleS)); case' FRESH => ((k_here; (with_reducible show wpAny _ _ (call (Value.ref 109) _) _ _ _); k_dflt (refine' isvar_use ?C ?F ?X ?T ?N ?R ?hv ?_; (case hv => first | exact Tv.at0 (by k_asm) (by assumption) | exact Tv.at (by assumption) (by k_asm) (by k_asm) (by k_all)); (case C => assumption); (case F => k_asm); (case X => k_asm); (case T => k_asm); (case N => k_asm); (case R => exact Rm.le (Rm.deeper (by assumption)) (by omega)); k_whole); intro h' tk' F' N')))
  trivial
section
variable {prog : Program} {w : World} {p : Program} {loose : List Str} {mean : ExcName → Option Value} {mg mb : Str → Option Value}
set_option maxHeartbeats 4000000 in
theorem placed_v {q : Str} (i1 : IsVarC prog w p loose mean mg mb (.leaf q) true) : PlacedV prog w p loose mean mg mb q := by
  intro A s pv v d kvs E Q X T R hv hd hds hval hh h
  obtain ⟨hA, dA, fA, gA, uA⟩ := A
  obtain rfl : hA = none := R.hh
  obtain ⟨a, k, rfl, hx⟩ := Tm.leaf_inv hv
  have hb : (!(valueAt kvs q).isSome) = false := by rw [hval]; rfl
  refine wpAny_call ?_
  k_dflt (refine' enterC (binds := [(Str.ofString "pattern", .ref a), (Str.ofString "table", .ref d)]) X T ?ho ?hcd (Rm.room R) ?hb ?hl ?hnd ?_ ?c1 ?c2 ?c3)
  case ho => k_dflt k_is
  case hcd => k_dflt k_is
  case hb => exact BindsTo.of_eq rfl
  case hl => exact rfl
  case hnd => decide +kernel
  case c1 => rfl
  case c2 => rfl
  case c3 => rfl
  intro L h₁ tk1 cells F N Y
  k_cells Y
  refine (?_ : let mM' := _; let aA' := _; wpAny mM' aA' _ _ _ _); intro mM' aA'
  (try dsimp only)
  k_fold
  k_steps
  rename Fr _ _ _ _ => F9
  exact h _ _ (Fr.keep F9)
end
section
variable {prog : Program} {w : World} {A : Around} {s : Shared} {h₀ : Heap} {L : Addr} {m : Str → Option Value} {news : List (Addr × Obj)} {p : Program} {loose : List Str} {mean : ExcName → Option Value} {mg mb : Str → Option Value} {E : Value → Shared → Prop} {Q : Value → Shared → Prop}
theorem placedV_use {pv v : Value} {q : Str} {d : Addr} {kvs : List (Str × Value)} (C : PlacedV prog w p loose mean mg mb q) (F : Fr h₀ L s.heap m) (X : (hd.heap_1 w.params).In h₀) (T : Top p loose mean mg mb h₀) (N : News h₀ L s.heap news) (R : Rm A 2) (hv : Tv (IsTup s.heap) pv (Tm.leaf q).py)
    (hd : h₀.DictOf (strKind prog w) d kvs) (hds : (d == sysModules) = false) (hval : valueAt kvs q = some v) (hh : handedIn v = true) (h : ∀ h' tk', Fr h₀ L h' m → News h₀ L h' news → Q v { s with heap := h', toks := tk' }) : wpAny (model prog w) A (call (.ref 119) [pv, .ref d]) Q E s :=
  C _ _ _ _ _ _ _ _ (X.keeps F.keep) (T.keeps F.keep) R hv (dictOf_keep hd F.keep) hds hval hh fun h' tk' k => h h' tk' (Fr.byKeep F k) (News.byKeep N k)
end
/-- placed upon a written term of two variables -/
def PlacedB (prog : Program) (w : World) (p : Program) (loose : List Str) (mean : ExcName → Option Value) (mg mb : Str → Option Value) (qa qb : Str) : Prop :=
  ∀ (A : Around) (s : Shared) (pv va vb : Value) (ta tb : Tm) (d : Addr) (kvs : List (Str × Value)) (E : Value → Shared → Prop) (Q : Value → Shared → Prop),
    (hd.heap_1 w.params).In s.heap → Top p loose mean mg mb s.heap → Rm A 3 → Tv (IsTup s.heap) pv (Tm.bin (.leaf qa) (.leaf qb)).py → s.heap.DictOf (strKind prog w) d kvs → (d == sysModules) = false → valueAt kvs qa = some va → valueAt kvs qb = some vb → Tv (IsTup s.heap) va ta.py → Tv (IsTup s.heap) vb tb.py →
    (∀ v' h' tk', Keep s.heap h' → Tv (IsTup h') v' (Tm.bin ta tb).py → Q v' { s with heap := h', toks := tk' }) →
    wpAny (model prog w) A (call (.ref 119) [pv, .ref d]) Q E s
theorem w93 : True := by
  k_with "M call ref" => ((fail_if_success (have := endOfRuleS)); case' FRESH => ((k_here; (with_reducible show wpAny _ _ (call (Value.ref 119) _) _ _ _); k_dflt (refine' placedV_use ?C ?F ?X ?T ?N ?R ?hv ?d ?ds ?v ?hh ?_; (case hv => first | exact Tv.at0 (by k_asm) (by assumption) | exact Tv.at (by assumption) (by k_asm) (by k_asm) (by k_all)); (case C => assumption); (case F => k_asm); (case X => k_asm); (case T => k_asm); (case N => k_asm); (case R => exact Rm.le (Rm.deeper (by assumption)) (by omega)); (case d => assumption); (case ds => assumption); (case v => assumption); (case hh => exact Tv.handed (by assumption)); k_whole); intro h' tk' F' N')))
  trivial
section
variable {prog : Program} {w : World} {p : Program} {loose : List Str} {mean : ExcName → Option Value} {mg mb : Str → Option Value}
set_option maxHeartbeats 4000000 in
theorem placed_b {qa qb : Str} (i1 : PlacedV prog w p loose mean mg mb qa) (i2 : PlacedV prog w p loose mean mg mb qb) : PlacedB prog w p loose mean mg mb qa qb := by
  intro A s pv va vb ta tb d kvs E Q X T R hv hd hds hva hvb hta htb h
  obtain ⟨hA, dA, fA, gA, uA⟩ := A
  obtain rfl : hA = none := R.hh
  obtain ⟨a, k, v1, v2, rfl, hx, hu, hu'⟩ := Tm.bin_inv hv
  have i3 : IsVarC prog w p loose mean mg mb (.bin (.leaf qa) (.leaf qb)) false := isvar_bin
  refine wpAny_call ?_
  k_dflt (refine' enterC (binds := [(Str.ofString "pattern", .ref a), (Str.ofString "table", .ref d)]) X T ?ho ?hcd (Rm.room R) ?hb ?hl ?hnd ?_ ?c1 ?c2 ?c3)
  case ho => k_dflt k_is
  case hcd => k_dflt k_is
  case hb => exact BindsTo.of_eq rfl
  case hl => exact rfl
  case hnd => decide +kernel
  case c1 => rfl
  case c2 => rfl
  case c3 => rfl
  intro L h₁ tk1 cells F N Y
  k_cells Y
  refine (?_ : let mM' := _; let aA' := _; wpAny mM' aA' _ _ _ _); intro mM' aA'
  (try dsimp only)
  k_fold
  k_steps
  rename Fr _ _ _ _ => F9
  rename News _ _ _ _ => N9
  exact h _ _ _ (Fr.keep F9) (.three (Fr.tupP (by assumption) F9 N9 (by k_all)) (.str _ _) (Tv.at0 F9 hta) (Tv.at0 F9 htb))
end
end
theorem endOfRuleS : True := trivial
/-! RuleT -/
section
open PyProof.Rows.LCg
theorem big_of {w : World} {h : Heap} (X : (hd.heap_1 w.params).In h) : sysModules < h.objs.size := by
  have e : ((hd.heap_1 w.params).lookup 351).isSome = true := by kernel_rfl
  obtain ⟨o, ho⟩ := Option.isSome_iff_exists.mp e
  exact Nat.lt_trans (by decide) (Heap.lt_size (X _ _ ho))
theorem strs_reads {h : Heap} {vs : List Value} {ss : List Str} (x : StrsAre vs ss) : ∃ as, ReadsAll h vs (ss.map .str) as := by
  induction x with
  | nil => exact ⟨_, .nil⟩
  | cons y t _ ih => obtain ⟨as, h⟩ := ih; exact ⟨_, .cons (.str y t) h⟩
theorem strs_eqv : ∀ ss : List Str, PyData.eqvAll (ss.map .str) (ss.map .str) = true
  | [] => by simp [PyData.eqvAll]
  | x :: r => by simp [PyData.eqvAll, PyData.eqv, strs_eqv r]
theorem shaped_xy : PySem.SeqAt.shaped (.list ([qx, qy].map .str)) = true := by
  have a : PyData.canLay0 (.str qx) = true := by decide +kernel
  have b : PyData.canLay0 (.str qy) = true := by decide +kernel
  unfold PySem.SeqAt.shaped
  simp [PyData.canLay0, PyData.canLayAll0, PyData.depth, PyData.depthAll] at a b ⊢
  exact ⟨a, b⟩
theorem shaped_nil : PySem.SeqAt.shaped (.list (([] : List Str).map .str)) = true := by
  unfold PySem.SeqAt.shaped
  simp [PyData.canLay0, PyData.canLayAll0, PyData.depth, PyData.depthAll]
section
variable {prog : Program} {w : World} {A : Around} {s : Shared} {h₀ : Heap} {L : Addr} {m : Str → Option Value} {news : List (Addr × Obj)} {p : Program} {loose : List Str} {mean : ExcName → Option Value} {mg mb : Str → Option Value} {E : Value → Shared → Prop} {Q : Value → Shared → Prop}
/-- two lists of the same strs -/
theorem neStrs_use {a b : Addr} {vs ws : List Value} {n k : Nat} {ss : List Str} (N : News h₀ L s.heap news) (ha : (a, PySem.W.listOf vs.toArray n) ∈ news) (hb : (b, PySem.W.listOf ws.toArray k) ∈ news) (hv : StrsAre vs ss) (hw : StrsAre ws ss)
    (hs : PySem.SeqAt.shaped (.list (ss.map .str)) = true) (hu : A.units + 64 < cLine) (h : Q (.bool false) s) : wpAny (model prog w) A (compareOp .NotEq (.ref a) (.ref b)) Q E s := by
  obtain ⟨as, ra⟩ := strs_reads (h := s.heap) hv
  obtain ⟨bs, rb⟩ := strs_reads (h := s.heap) hw
  refine ne_dataH (da := .list (ss.map .str)) (db := .list (ss.map .str)) (.list (N _ ha).1 rfl rfl (by simpa using ra)) (.list (N _ hb).1 rfl rfl (by simpa using rb)) hs hs hu ?_
  rw [show PyData.eqv (.list (ss.map .str)) (.list (ss.map .str)) = true from by simp [PyData.eqv, strs_eqv]]
  exact h
theorem eqStrs_use {a b : Addr} {vs ws : List Value} {n k : Nat} {ss : List Str} (N : News h₀ L s.heap news) (ha : (a, PySem.W.listOf vs.toArray n) ∈ news) (hb : (b, PySem.W.listOf ws.toArray k) ∈ news) (hv : StrsAre vs ss) (hw : StrsAre ws ss)
    (hs : PySem.SeqAt.shaped (.list (ss.map .str)) = true) (hu : A.units + 64 < cLine) (h : Q (.bool true) s) : wpAny (model prog w) A (compareOp .Eq (.ref a) (.ref b)) Q E s := by
  obtain ⟨as, ra⟩ := strs_reads (h := s.heap) hv
  obtain ⟨bs, rb⟩ := strs_reads (h := s.heap) hw
  refine eq_dataH (da := .list (ss.map .str)) (db := .list (ss.map .str)) (.list (N _ ha).1 rfl rfl (by simpa using ra)) (.list (N _ hb).1 rfl rfl (by simpa using rb)) hs hs hu ?_
  rw [show PyData.eqv (.list (ss.map .str)) (.list (ss.map .str)) = true from by simp [PyData.eqv, strs_eqv]]
  exact h
theorem vars_use {v : Value} (C : VarsC prog w p loose mean mg mb qx qy) (F : Fr h₀ L s.heap m) (X : (hd.heap_1 w.params).In h₀) (T : Top p loose mean mg mb h₀) (N : News h₀ L s.heap news) (R : Rm A 4) (hv : Tv (IsTup s.heap) v (Tm.bin (.leaf qx) (.leaf qy)).py)
    (h : ∀ l h' d tk' t1 t2 n, Fr h₀ L h' m → News h₀ L h' ((l, PySem.W.listOf (List.toArray [.str qx t1, .str qy t2]) n) :: news) → (∀ p ∈ news, p.1 ≠ l) → Q (.ref l) { s with heap := h', drawn := d, toks := tk' }) :
    wpAny (model prog w) A (call (.ref 114) [v]) Q E s := by
  refine C _ _ _ _ _ (X.keeps F.keep) (T.keeps F.keep) R hv fun l h' d tk' t1 t2 n hl k ho => ?_
  exact h l h' d tk' t1 t2 n (Fr.byKeep F k) (fresh_news F (News.byKeep N k) hl ho) (ne_of_none N hl)
theorem dictP_use {a : Addr} {vs : List Value} {prs : List (Str × Value)} (hh : A.handled = none) (F : Fr h₀ L s.heap m) (X : (hd.heap_1 w.params).In h₀) (N : News h₀ L s.heap news) (ha : PairSrc s.heap a vs) (hlen : prs.length = vs.length) (hnd : (prs.map (·.1)).Nodup) (hz : vs.length ≤ 1000)
    (hprs : ∀ (i : Nat) (v : Value) (x : Str × Value), vs[i]? = some v → prs[i]? = some x → PairAt s.heap v x)
    (h : ∀ d o h' tk, Fr h₀ L h' m → News h₀ L h' ((d, o) :: news) → (∀ p ∈ news, p.1 ≠ d) → o.IsDictOf (strKind prog w) prs → (d == sysModules) = false → tupObj o = false → Q (.ref d) { s with heap := h', toks := tk }) :
    wpAny (model prog w) A (call (.type "dict") [.ref a]) Q E s := by
  refine call_dict_pairs hh ha hlen hnd hz hprs fun d h' tk hd hde hdo k => ?_
  obtain ⟨o, ho, hdo'⟩ := Heap.dictOf_iff.mp hdo
  refine h d o h' tk (Fr.byKeep F k) (fresh_news F (News.byKeep N k) hd ho) (ne_of_none N hd) hdo' ?_ ?_
  · rw [hde]
    have := big_of X
    have h2 : h₀.objs.size ≤ s.heap.objs.size := Nat.le_trans F.above (Nat.le_of_lt F.ns.lt)
    exact beq_eq_false_iff_ne.mpr (Nat.ne_of_gt (Nat.lt_of_lt_of_le this h2))
  · obtain ⟨es, ep, _, hd', _⟩ := hdo'
    unfold tupObj; rw [hd']; simp
theorem placedB_use {pv va vb : Value} {qa qb : Str} {ta tb : Tm} {d : Addr} {o : Obj} {kvs : List (Str × Value)} (C : PlacedB prog w p loose mean mg mb qa qb) (F : Fr h₀ L s.heap m) (X : (hd.heap_1 w.params).In h₀) (T : Top p loose mean mg mb h₀) (N : News h₀ L s.heap news) (R : Rm A 3) (hv : Tv (IsTup s.heap) pv (Tm.bin (.leaf qa) (.leaf qb)).py)
    (hm : (d, o) ∈ news) (hd : o.IsDictOf (strKind prog w) kvs) (hds : (d == sysModules) = false) (hva : valueAt kvs qa = some va) (hvb : valueAt kvs qb = some vb) (hta : Tv (IsTup s.heap) va ta.py) (htb : Tv (IsTup s.heap) vb tb.py)
    (h : ∀ v' h' tk' tl, Fr h₀ L h' m → News h₀ L h' (news ++ tl) → AllTup tl → Tv (Tp h₀ tl) v' (Tm.bin ta tb).py → Q v' { s with heap := h', toks := tk' }) : wpAny (model prog w) A (call (.ref 119) [pv, .ref d]) Q E s := by
  refine C _ _ _ _ _ _ _ _ _ _ _ (X.keeps F.keep) (T.keeps F.keep) R hv (Heap.dictOf_iff.mpr ⟨o, (N _ hm).1, hd⟩) hds hva hvb hta htb fun v' h' tk' k hv' => ?_
  have F' := Fr.byKeep F k
  exact h v' h' tk' (tups h₀ h') F' (News.app (News.byKeep N k) (news_tups F')) (allTup_tups _ _) (hv'.mono fun a vs y => tp_tups F' y)
end
theorem PairSrc.keep {h h' : Heap} {a : Addr} {vs : List Value} (x : PairSrc h a vs) (k : Keep h h') : PairSrc h' a vs := x.elim (fun ⟨n, sl, e⟩ => .inl ⟨n, sl, k _ _ e⟩) fun ⟨n, sl, e⟩ => .inr ⟨n, sl, k _ _ e⟩
theorem pairs_keep {h h' : Heap} {vs : List Value} {prs : List (Str × Value)} (x : ∀ (i : Nat) (v : Value) (x : Str × Value), vs[i]? = some v → prs[i]? = some x → PairAt h v x) (k : Keep h h') : ∀ (i : Nat) (v : Value) (x : Str × Value), vs[i]? = some v → prs[i]? = some x → PairAt h' v x :=
  fun i v y a b => let ⟨T, t, e, hT⟩ := x i v y a b; ⟨T, t, e, hT.keeps k⟩
theorem pq_nodup {va vb : Value} : ([(qx, va), (qy, vb)].map (·.1)).Nodup := by
  show ([qx, qy] : List Str).Nodup
  decide +kernel
theorem pq_x {va vb : Value} : valueAt [(qx, va), (qy, vb)] qx = some va := rfl
theorem pq_y {va vb : Value} : valueAt [(qx, va), (qy, vb)] qy = some vb := rfl
theorem IsTup.ofNew {h₀ h : Heap} {L : Addr} {D : Addr} {xs : Array Value} {r : List (Addr × Obj)} (N : News h₀ L h ((D, { cls := Value.type "tuple", data := Data.seq xs }) :: r)) : IsTup h D xs := ⟨_, (N _ (.head _)).1, rfl, _, rfl⟩
/-- Judge.rule_sides upon the law's one rule -/
def RuleSC (prog : Program) (w : World) (p : Program) (loose : List Str) (mean : ExcName → Option Value) (mg mb : Str → Option Value) : Prop :=
  ∀ (A : Around) (s : Shared) (st J td rd R pl P1 P2 : Addr) (p0 p1 vl vr va vb vn : Value) (ta tb : Tm) (ts k1 k2 : Tok) (E : Value → Shared → Prop) (Q : Value → Shared → Prop),
    (hd.heap_1 w.params).In s.heap → Top p loose mean mg mb s.heap → Rm A 6 → JAt prog w s.heap st J td rd R p0 p1 vl vr → PairSrc s.heap pl [.ref P1, .ref P2] → IsTup s.heap pl #[.ref P1, .ref P2] → IsTup s.heap P1 #[.str qx k1, va] → IsTup s.heap P2 #[.str qy k2, vb] → Tv (IsTup s.heap) va ta.py → Tv (IsTup s.heap) vb tb.py →
    (∀ D l r h' d tk', Keep s.heap h' → IsTup h' D #[l, r] → Tv (IsTup h') l (Tm.bin ta tb).py → Tv (IsTup h') r (Tm.bin tb ta).py → Q (.ref D) { s with heap := h', drawn := d, toks := tk' }) →
    wpAny (model prog w) A (call (.ref 202) [.ref J, .str (Str.ofString "swap") ts, .ref pl, vn]) Q E s
theorem w94 : True := by
  k_with "M call ref" => ((fail_if_success (have := endOfRuleT)); case' FRESH => ((k_here; (with_reducible show wpAny _ _ (call (Value.ref 114) _) _ _ _); k_dflt (refine' vars_use ?C ?F ?X ?T ?N ?R ?hv ?_; (case F => k_asm); (case X => k_asm); (case T => k_asm); (case C => exact vars_xy); (case N => k_asm); (case R => exact Rm.le (Rm.deeper (by assumption)) (by omega)); (case hv => exact Tv.at0 (by k_asm) (by assumption)); k_whole); intro l' h' d' tk' t1' t2' n' F' N' l1)))
  trivial
theorem w95 : True := by
  k_with "M compareOp NotEq ref ref" => ((fail_if_success (have := endOfRuleT)); case' FRESH => ((k_here; k_dflt (refine' neStrs_use ?N ?a ?b ?v ?w ?s ?u ?_; (case N => k_asm); (case a => k_mem); (case b => k_mem); (case v => exact StrsAre.cons _ _ (StrsAre.cons _ _ StrsAre.nil)); (case w => exact StrsAre.cons _ _ (StrsAre.cons _ _ StrsAre.nil)); (case s => exact shaped_xy); (case u => exact Rm.units (by assumption)); k_whole))))
  trivial
theorem w96 : True := by
  k_with "M call type:dict cons nil" => ((fail_if_success (have := endOfRuleT)); case' FRESH => ((k_here; k_dflt (refine' dictP_use ?h ?F ?X ?N ?a ?l ?n ?z ?p ?_; (case h => rfl); (case F => k_asm); (case X => k_asm); (case N => k_asm); (case a => exact PairSrc.keep (by assumption) (Fr.keep (by k_asm))); (case p => exact pairs_keep (by assumption) (Fr.keep (by k_asm))); (case l => rfl); (case n => exact pq_nodup); (case z => exact Nat.le_of_ble_eq_true rfl); k_whole); intro d' o' h' tk' F' N' l1 hd' hs' ht')))
  trivial
theorem w97 : True := by
  k_with "M call ref" => ((fail_if_success (have := endOfRuleT)); case' FRESH => ((k_here; (with_reducible show wpAny _ _ (call (Value.ref 119) _) _ _ _); k_dflt (refine' placedB_use ?C ?F ?X ?T ?N ?R ?hv ?m ?d ?ds ?a ?b ?x ?y ?_; (case hv => exact Tv.at0 (by k_asm) (by assumption)); (case C => assumption); (case F => k_asm); (case X => k_asm); (case T => k_asm); (case N => k_asm); (case R => exact Rm.le (Rm.deeper (by assumption)) (by omega)); (case m => k_mem); (case d => assumption); (case ds => assumption); (case a => first | exact pq_x | exact pq_y); (case b => first | exact pq_x | exact pq_y); (case x => exact Tv.at0 (by k_asm) (by assumption)); (case y => exact Tv.at0 (by k_asm) (by assumption)); k_whole); intro v' h' tk' tl' F' N' hA' hd'; (try simp only [List.cons_append, List.nil_append] at N'))))
  trivial
section
variable {prog : Program} {w : World} {p : Program} {loose : List Str} {mean : ExcName → Option Value} {mg mb : Str → Option Value}
set_option maxHeartbeats 4000000 in
theorem rule_spec : RuleSC prog w p loose mean mg mb := by
  intro A s st J td rd R pl P1 P2 p0 p1 vl vr va vb vn ta tb ts k1 k2 E Q X T Rr Jt hps hpt hP1 hP2 hta htb h
  obtain ⟨hA, dA, fA, gA, uA⟩ := A
  obtain rfl : hA = none := Rr.hh
  obtain ⟨_, _, _, _, _, _, ij⟩ := Jt.judge
  obtain ⟨_, _, _, _, _, _, _, _, _, _, _, _, ir⟩ := Jt.rule
  have hd1 := Jt.rules
  have hd2 := Jt.rds
  have hb : (!(valueAt [(Str.ofString "swap", Value.ref R)] (Str.ofString "swap")).isSome) = false := rfl
  have hv : valueAt [(Str.ofString "swap", Value.ref R)] (Str.ofString "swap") = some (.ref R) := rfl
  have hl := Jt.left
  have hr := Jt.right
  have c1 : PlacedB prog w p loose mean mg mb qx qy := placed_b (placed_v isvar_x) (placed_v isvar_y)
  have c2 : PlacedB prog w p loose mean mg mb qy qx := placed_b (placed_v isvar_y) (placed_v isvar_x)
  have hpr : ∀ (i : Nat) (v : Value) (x : Str × Value), [Value.ref P1, .ref P2][i]? = some v → [(qx, va), (qy, vb)][i]? = some x → PairAt s.heap v x := by
    intro i v x a b
    match i with
    | 0 => cases a; cases b; exact ⟨_, _, rfl, hP1⟩
    | 1 => cases a; cases b; exact ⟨_, _, rfl, hP2⟩
    | i + 2 => simp at a
  clear Jt
  refine wpAny_call ?_
  k_dflt (refine' enter0 (binds := [(Str.ofString "self", .ref J), (Str.ofString "name", .str (Str.ofString "swap") ts), (Str.ofString "places", .ref pl), (Str.ofString "place", vn)]) X T ?ho ?hcd (Rm.room Rr) ?hb ?hl ?_ ?c1 ?c2 ?c3 ?c4)
  case ho => k_dflt k_is
  case hcd => k_dflt k_is
  case hb => exact BindsTo.of_eq rfl
  case hl => exact locs rfl
  case c1 => rfl
  case c2 => rfl
  case c3 => rfl
  case c4 => decide
  intro L h₁ tk1 F N
  refine (?_ : let mM' := _; let aA' := _; wpAny mM' aA' _ _ _ _); intro mM' aA'
  k_fold
  k_steps
  rename Fr _ _ _ _ => F9
  rename News _ _ _ _ => N9
  exact h _ _ _ _ _ _ (Fr.keep F9) (IsTup.ofNew N9) (Tv.at (by assumption) F9 N9 (by k_all)) (Tv.at (by assumption) F9 N9 (by k_all))
end
end
theorem endOfRuleT : True := trivial
/-! Places -/
section
open PyProof.Rows.LCg
theorem strs_to {vs : List Value} {zs : List Str} (hv : StrsAre vs zs) (h : List.Perm zs [qx, qy]) (hs : sortedS zs = true) : StrsAre vs [qx, qy] := sorted_xy h hs ▸ hv
theorem strs_to0 {vs : List Value} {zs : List Str} (hv : StrsAre vs zs) (h : List.Perm zs []) : StrsAre vs [] := h.eq_nil ▸ hv
section
variable {prog : Program} {w : World} {A : Around} {s : Shared} {h₀ : Heap} {L : Addr} {m : Str → Option Value} {news : List (Addr × Obj)} {p : Program} {loose : List Str} {mean : ExcName → Option Value} {mg mb : Str → Option Value} {E : Value → Shared → Prop} {Q : Value → Shared → Prop}
theorem plain_use {v : Value} {t : Tm} (F : Fr h₀ L s.heap m) (X : (hd.heap_1 w.params).In h₀) (T : Top p loose mean mg mb h₀) (N : News h₀ L s.heap news) (R : Rm A 1) (hz : t.size ≤ 100) (hp : t.Plain) (hv : Tv (IsTup s.heap) v t.py)
    (h : ∀ h' tk', Fr h₀ L h' m → News h₀ L h' news → Q (.bool true) { s with heap := h', toks := tk' }) : wpAny (model prog w) A (call (.ref 152) [v]) Q E s :=
  plain_spec _ _ _ t _ _ (X.keeps F.keep) (T.keeps F.keep) R hz hp hv fun h' tk' k => h h' tk' (Fr.byKeep F k) (News.byKeep N k)
end
theorem len_tup2 {prog : Program} {w : World} {A : Around} {s : Shared} {l : Addr} {x y : Value} {Q : Value → Shared → Prop} {E : Value → Shared → Prop} (t : IsTup s.heap l #[x, y]) (h : ∀ t, Q (.int 2 t) { s with toks := s.toks + 1 + 1 }) : wpAny (model prog w) A (call (.builtin "len") [.ref l]) Q E s :=
  len_tuple t (by show ((2 : Nat) : Int) < 2 ^ 63; decide) (h _)
/-! a comprehension laid into a name on the same line -/
def FinN (h₀ : Heap) (L : Addr) (m : Str → Option Value) (s : Shared) (y : Str) (Q : Flow → Shared → Prop) (ys : List Value) (news : List (Addr × Obj)) : Prop :=
  ∀ D h tk, Fr h₀ L h (fun z => if z = y then some (.ref D) else m z) → News h₀ L h ((D, lst ys) :: news) → (∀ p ∈ news, p.1 ≠ D) → Q .next { s with heap := h, toks := tk }
section
variable {prog : Program} {w : World} {A : Around} {E : Value → Shared → Prop} {s : Shared} {h₀ : Heap} {L : Addr} {m : Str → Option Value} {env : Env} {news : List (Addr × Obj)}
theorem asgComp {elt target iter : Expr} {c : Option Expr} {scope : Scope} {cl : List (Str × Addr)} {y : Str} {py pos spos : Pos} {Q : Flow → Shared → Prop} (_F₀ : Fr h₀ L s.heap m) (hLe : env.locals = L)
    (hsw : swapsWith (.ListComp elt [⟨target, iter, c.toList, 0⟩] scope pos) (some (.Name y py)) spos.line env = pure true)
    (hclos : closureFor scope env = pure cl) (hcell : ∀ y ∈ scope.names, y.2 ≠ .cell) (hkind : scope.kind = .function)
    (hnames : ∀ y ∈ scope.names, y.2 = .local → scope.names.lookup y.1 = some .local) (hok : tgtOk scope target = true)
    (hy : env.kindOf y = some .local) (hp : (env.scope.kind == .class || (env.scope.kind == .module && env.locals != env.globals)) = false)
    (h : wpAny (model prog w) A (eval iter env) (fun xv s₁ => wpAny (model prog w) A (pyIter xv) (fun it s₂ => CompG prog w A h₀ L m env target elt c scope cl (fun s₂ => FinN h₀ L m s₂ y Q) it s₂) E s₁) E s)
    (hs : ∀ x, foldedSetIterable iter env x = pure x) :
    wpAny (model prog w) A (exec (.Assign [.Name y py] (.ListComp elt [⟨target, iter, c.toList, 0⟩] scope pos) spos) env) Q E s := by
  subst hLe
  rw [exec_Assign_Name_used _ _ _ _ hsw]
  refine wpAny_bind (wpAny_standAt (wpAny_bind ?_))
  show wpAny _ A (do let _ ← comprehension (.ListComp elt [⟨target, iter, c.toList, 0⟩] scope pos) scope env _ (newList []) false (eval iter env) (some (assign (.Name y py) env))) _ _ s
  refine wpAny_bind (wpAny_mono (wpAny_comprehension_free (use := some (assign (.Name y py) env)) (Q := fun _ s' => Q .next s') rfl hs hclos hkind hnames
    (wpAny_mono h (fun xv s₁ h₁ => wpAny_mono h₁ (fun it s₂ h₂ => ?_) fun _ _ e => e) fun _ _ e => e)) (fun _ s' hq => wpAny_pure (wpAny_pure hq)) fun _ _ e => e)
  refine comp_block h₂ hcell hkind hok ?_
  intro D C h' tk m' ys news' F' N' o1 hn hC₀ hD₀ hCL hDL hCD offC fin
  show wpAny _ A (assign (.Name y py) env (.ref D)) _ _ _
  refine wpAny_assign_Name (wpAny_storeName_local hy F'.ns (fun h₂ hn₂ hs₂ => ?_) hp)
  have hL₀ : h₀.get? env.locals = none := Heap.get?_none_of_le F'.above
  have F₂ : Fr h₀ env.locals h₂ (fun z => if z = y then some (.ref D) else m z) := ⟨hn₂, fun b o e => hs₂.extBut b o (fun q => by rw [q, hL₀] at e; cases e) (F'.keep b o e), F'.above⟩
  refine ⟨m', hn.sameBut hs₂ hCL, fun h'' hs'' => fin D h'' _ (F₂.change hs'' hCL hC₀) (fun p hp => ?_) o1⟩
  have z : h₂.get? p.1 = some p.2 := hs₂.extBut _ _ (N' p hp).2.1 (N' p hp).1
  refine ⟨hs''.extBut _ _ ?_ z, (N' p hp).2⟩
  rcases List.mem_cons.mp hp with rfl | hp
  · exact Ne.symm hCD
  · exact offC p hp
end
theorem w98 : True := by
  k_with "M exec Assign cons ListComp" => (case' FRESH => ((k_here; k_dflt ((first | refine' asgComp (c := none) ?F ?L ?sw ?cl ?cell ?kind ?names ?ok ?y ?p ?_ ?hs | refine' asgComp (c := some _) ?F ?L ?sw ?cl ?cell ?kind ?names ?ok ?y ?p ?_ ?hs); (case F => k_asm); (case L => rfl); (case sw => with_unfolding_all rfl); (case cl => with_unfolding_all rfl); (case cell => decide); (case kind => rfl); (case names => decide); (case ok => decide +kernel); (case y => rfl); (case p => rfl); (case hs => intro _; with_unfolding_all rfl); k_whole))))
  trivial
theorem w99 : True := by
  k_with "M FinN" => (case' FRESH => (((unfold FinN); intro D' h' tk' F' N' o1'; (try simp only [List.nil_append, List.cons_append] at N'); (try dsimp only))))
  trivial
/-- are_places upon a pair of places, and upon none -/
def PlacesC (prog : Program) (w : World) (p : Program) (loose : List Str) (mean : ExcName → Option Value) (mg mb : Str → Option Value) : Prop :=
  ∀ (A : Around) (s : Shared) (pl P1 P2 : Addr) (va vb : Value) (ta tb : Tm) (k1 k2 : Tok) (E : Value → Shared → Prop) (Q : Value → Shared → Prop),
    (hd.heap_1 w.params).In s.heap → Top p loose mean mg mb s.heap → Rm A 3 → IsTup s.heap pl #[.ref P1, .ref P2] → IsTup s.heap P1 #[.str qx k1, va] → IsTup s.heap P2 #[.str qy k2, vb] → Tv (IsTup s.heap) va ta.py → Tv (IsTup s.heap) vb tb.py →
    ta.Plain → tb.Plain → ta.size ≤ 100 → tb.size ≤ 100 →
    (∀ h' d tk', Keep s.heap h' → Q (.bool true) { s with heap := h', drawn := d, toks := tk' }) →
    wpAny (model prog w) A (call (.ref 157) [.ref pl]) Q E s
def Places0C (prog : Program) (w : World) (p : Program) (loose : List Str) (mean : ExcName → Option Value) (mg mb : Str → Option Value) : Prop :=
  ∀ (A : Around) (s : Shared) (pl : Addr) (E : Value → Shared → Prop) (Q : Value → Shared → Prop),
    (hd.heap_1 w.params).In s.heap → Top p loose mean mg mb s.heap → Rm A 3 → IsTup s.heap pl #[] →
    (∀ h' d tk', Keep s.heap h' → Q (.bool true) { s with heap := h', drawn := d, toks := tk' }) →
    wpAny (model prog w) A (call (.ref 157) [.ref pl]) Q E s
theorem w100 : True := by
  k_with "M call ref" => ((fail_if_success (have := endOfPlaces)); case' FRESH => ((k_here; (with_reducible show wpAny _ _ (call (Value.ref 152) _) _ _ _); k_dflt (refine' plain_use ?F ?X ?T ?N ?R ?z ?p ?hv ?_; (case hv => first | exact Tv.at0 (by k_asm) (by assumption) | exact Tv.at (by assumption) (by k_asm) (by k_asm) (by k_all)); (case F => k_asm); (case X => k_asm); (case T => k_asm); (case N => k_asm); (case z => assumption); (case p => assumption); (case R => exact Rm.le (Rm.deeper (by assumption)) (by omega)); k_whole); intro h' tk' F' N')))
  trivial
theorem w101 : True := by
  k_with "M eval ListComp" => ((fail_if_success (have := endOfPlaces)); case' FRESH => ((k_here; (with_reducible show wpAny _ _ (eval (PySem.Expr.ListComp _ [PySem.Comprehension.mk _ _ [] _] _ _) _) _ _ _); k_dflt (refine' comp_gen0 ?F ?cl ?cell ?kind ?names ?ok ?_ ?hs; (case F => k_asm); (case cl => with_unfolding_all rfl); (case cell => decide); (case kind => rfl); (case names => decide); (case ok => decide +kernel); (case hs => intro _; with_unfolding_all rfl); k_whole))))
  trivial
theorem w102 : True := by
  k_with "M eval ListComp" => ((fail_if_success (have := endOfPlaces)); case' FRESH => ((k_here; (with_reducible show wpAny _ _ (eval (PySem.Expr.ListComp _ [PySem.Comprehension.mk _ _ [_] _] _ _) _) _ _ _); k_dflt (refine' comp_gen1 ?F ?cl ?cell ?kind ?names ?ok ?_ ?hs; (case F => k_asm); (case cl => with_unfolding_all rfl); (case cell => decide); (case kind => rfl); (case names => decide); (case ok => decide +kernel); (case hs => intro _; with_unfolding_all rfl); k_whole))))
  trivial
theorem w103 : True := by
  k_with "M call type:set cons nil" => ((fail_if_success (have := endOfPlaces)); case' FRESH => ((k_here; k_dflt (refine' set_use ?hh ?F ?N ?l ?i ?n ?b ?_; (case hh => rfl); (case F => k_asm); (case N => k_asm); (case l => exact News.isList (by k_asm) (by k_mem)); (case i => first | exact StrsAre.nil | exact StrsAre.cons _ _ (StrsAre.cons _ _ StrsAre.nil)); (case n => first | assumption | decide +kernel); (case b => exact Nat.le_of_ble_eq_true rfl); k_whole); intro S' oS' h' tk' hO' F' N' l1 hS')))
  trivial
theorem w104 : True := by
  k_with "M call builtin:sorted" => ((fail_if_success (have := endOfPlaces)); case' FRESH => ((k_here; k_dflt (refine' sorted_use ?hh ?F ?N ?m ?S ?a ?b ?_; (case hh => rfl); (case F => k_asm); (case N => k_asm); (case m => k_mem); (case S => assumption); (case a => exact Nat.ne_of_beq_eq_false rfl); (case b => exact Nat.le_of_ble_eq_true rfl); k_whole); intro l' vs' zs' n' h' d' tk' F' N' l1 hv' hp' hs')))
  trivial
theorem w105 : True := by
  k_with "M compareOp NotEq ref ref" => ((fail_if_success (have := endOfPlaces)); case' FRESH => ((k_here; k_dflt (refine' neStrs_use ?N ?a ?b ?v ?w ?s ?u ?_; (case N => k_asm); (case a => k_mem); (case b => k_mem); (case v => exact StrsAre.nil); (case w => exact StrsAre.nil); (case s => exact shaped_nil); (case u => exact Rm.units (by assumption)); k_whole))))
  trivial
theorem w106 : True := by
  k_with "M compareOp Eq ref ref" => ((fail_if_success (have := endOfPlaces)); case' FRESH => ((k_here; k_dflt (refine' eqStrs_use ?N ?a ?b ?v ?w ?s ?u ?_; (case N => k_asm); (case a => k_mem); (case b => k_mem); (case v => first | exact StrsAre.nil | exact StrsAre.cons _ _ (StrsAre.cons _ _ StrsAre.nil)); (case w => first | exact StrsAre.nil | exact strs_to (by assumption) (by assumption) (by assumption) | exact strs_to0 (by assumption) (by assumption)); (case s => first | exact shaped_nil | exact shaped_xy); (case u => exact Rm.units (by assumption)); k_whole))))
  trivial
theorem w107 : True := by
  k_with "M call builtin:len" => ((fail_if_success (have := endOfPlaces)); case' FRESH => ((k_here; (with_reducible show wpAny _ _ (call (Value.builtin _) [Value.ref _]) _ _ _); k_dflt (refine' len_tup2 ?t ?_; (case t => exact Fr.tup (by k_asm) (by assumption))))))
  trivial
section
variable {prog : Program} {w : World} {p : Program} {loose : List Str} {mean : ExcName → Option Value} {mg mb : Str → Option Value}
set_option maxHeartbeats 4000000 in
theorem places0_spec : Places0C prog w p loose mean mg mb := by
  intro A s pl E Q X T Rr hpl h
  obtain ⟨hA, dA, fA, gA, uA⟩ := A
  obtain rfl : hA = none := Rr.hh
  refine wpAny_call ?_
  k_dflt (refine' enter0 (binds := [(Str.ofString "thing", .ref pl)]) X T ?ho ?hcd (Rm.room Rr) ?hb ?hl ?_ ?c1 ?c2 ?c3 ?c4)
  case ho => k_dflt k_is
  case hcd => k_dflt k_is
  case hb => exact BindsTo.of_eq rfl
  case hl => exact locs rfl
  case c1 => rfl
  case c2 => rfl
  case c3 => rfl
  case c4 => decide
  intro L h₁ tk1 F N
  refine (?_ : let mM' := _; let aA' := _; wpAny mM' aA' _ _ _ _); intro mM' aA'
  k_fold
  k_steps
  rename Fr _ _ _ _ => F9
  exact h _ _ _ (Fr.keep F9)
set_option maxHeartbeats 4000000 in
theorem places_spec : PlacesC prog w p loose mean mg mb := by
  intro A s pl P1 P2 va vb ta tb k1 k2 E Q X T Rr hpl hP1 hP2 hta htb hpa hpb hza hzb h
  obtain ⟨hA, dA, fA, gA, uA⟩ := A
  obtain rfl : hA = none := Rr.hh
  refine wpAny_call ?_
  k_dflt (refine' enter0 (binds := [(Str.ofString "thing", .ref pl)]) X T ?ho ?hcd (Rm.room Rr) ?hb ?hl ?_ ?c1 ?c2 ?c3 ?c4)
  case ho => k_dflt k_is
  case hcd => k_dflt k_is
  case hb => exact BindsTo.of_eq rfl
  case hl => exact locs rfl
  case c1 => rfl
  case c2 => rfl
  case c3 => rfl
  case c4 => decide
  intro L h₁ tk1 F N
  refine (?_ : let mM' := _; let aA' := _; wpAny mM' aA' _ _ _ _); intro mM' aA'
  k_fold
  k_steps
  rename Fr _ _ _ _ => F9
  exact h _ _ _ (Fr.keep F9)
end
end
theorem endOfPlaces : True := trivial
/-! Sides -/
section
open PyProof.Rows.LCg
def SameL (a b : List (Addr × Obj)) : Prop := a = b
section
variable {prog : Program} {w : World} {A : Around} {E : Value → Shared → Prop} {s : Shared} {h₀ : Heap} {L : Addr} {m : Str → Option Value} {env : Env} {news : List (Addr × Obj)}
/-- a test that no int of a tuple passes -/
theorem CRest.ints0 {elt : Expr} {x : Str} {px : Pos} {c : Expr} {scope : Scope} {cl : List (Str × Addr)} {kt : Heap → Prop} {Fin : List Value → List (Addr × Obj) → Prop} {vs : List Value} {ns : List Int} (hv : IntV vs ns)
    (turn : ∀ (i : Int) (t : Tok) (I : Addr) (oI : Obj) (D C : Addr) (oC : Obj) m₂ h tk (E' : Value → Shared → Prop), tupObj oI = false → NsObj oC m₂ → m₂ x = some (.int i t) → tupObj oC = false → Fr h₀ L h m → News h₀ L h ((I, oI) :: (C, oC) :: (D, lst []) :: news) → (∀ p ∈ news, p.1 ≠ I) → (∀ p ∈ news, p.1 ≠ C) → (∀ p ∈ news, p.1 ≠ D) → ((@Ne Nat I C) ∧ (@Ne Nat I D) ∧ (@Ne Nat C D)) →
        cTested prog w A (some c) (compEnvC scope cl C env) (fun _ => False) (CEnd h₀ L m { s with heap := h, toks := tk } I oI C oC D (lst []) kt (fun news' => SameL news' news)) E' { s with heap := h, toks := tk })
    (fin : Fin [] news) : CRest prog w A h₀ L m env (.Name x px) elt (some c) scope cl s kt Fin vs [] news := by
  induction hv with
  | nil => exact CRest.zero fin
  | @cons i t vs ns hv ih =>
    refine CRest.name fun I oI D C oC m₂ h tk E' hI hC hx hC2 F N n1 n2 n3 ne => ?_
    have z := turn i t I oI D C oC m₂ h tk E' hI hC hx hC2 F N n1 n2 n3 ne
    dsimp only [cTested] at z ⊢
    refine wpAny_mono z (fun ok s₃ h₃ => ?_) fun _ _ e => e
    cases ok with
    | true => exact absurd h₃ (by simp)
    | false =>
      simp only [Bool.false_eq_true, if_false] at h₃ ⊢
      obtain ⟨h', tk', news', e, F', N', o1, o2, o3, k, hs⟩ := h₃
      cases hs
      exact ⟨h', tk', _, e, F', N', o1, o2, o3, k, ih⟩
end
/-- the step of a law: what its five items are -/
structure StepV (h : Heap) (sp a : Addr) (vs : List Value) (ns : List Int) (kd : Str) (k1 : Tok) (x : Str) (k2 : Tok) (pl : Addr) (b : Bool) : Prop where
  tup : IsTup h sp #[.ref a, .str kd k1, .str x k2, .ref pl, .bool b]
  path : IsTup h a vs.toArray
  nums : IntV vs ns
  len : vs.length ≤ 1000
def PlacesOn (prog : Program) (w : World) (p : Program) (loose : List Str) (mean : ExcName → Option Value) (mg mb : Str → Option Value) (h : Heap) (pl : Addr) : Prop :=
  ∀ (A : Around) (s : Shared) (E : Value → Shared → Prop) (Q : Value → Shared → Prop), Keep h s.heap → (hd.heap_1 w.params).In s.heap → Top p loose mean mg mb s.heap → Rm A 3 →
    (∀ h' d tk', Keep s.heap h' → Q (.bool true) { s with heap := h', drawn := d, toks := tk' }) → wpAny (model prog w) A (call (.ref 157) [.ref pl]) Q E s
/-- is_step upon a step -/
def IsStepC (prog : Program) (w : World) (p : Program) (loose : List Str) (mean : ExcName → Option Value) (mg mb : Str → Option Value) : Prop :=
  ∀ (A : Around) (s : Shared) (sp a pl : Addr) (vs : List Value) (ns : List Int) (kd x : Str) (k1 k2 : Tok) (b : Bool) (E : Value → Shared → Prop) (Q : Value → Shared → Prop),
    (hd.heap_1 w.params).In s.heap → Top p loose mean mg mb s.heap → Rm A 4 → StepV s.heap sp a vs ns kd k1 x k2 pl b → PlacesOn prog w p loose mean mg mb s.heap pl →
    (∀ h' d tk', Keep s.heap h' → Q (.bool true) { s with heap := h', drawn := d, toks := tk' }) →
    wpAny (model prog w) A (call (.ref 231) [.ref sp]) Q E s
theorem len_tup5 {prog : Program} {w : World} {A : Around} {s : Shared} {l : Addr} {x y z u v : Value} {Q : Value → Shared → Prop} {E : Value → Shared → Prop} (t : IsTup s.heap l #[x, y, z, u, v]) (h : ∀ t, Q (.int 5 t) { s with toks := s.toks + 1 + 1 }) : wpAny (model prog w) A (call (.builtin "len") [.ref l]) Q E s :=
  len_tuple t (by show ((5 : Nat) : Int) < 2 ^ 63; decide) (h _)
section
variable {prog : Program} {w : World} {A : Around} {s : Shared} {h₀ : Heap} {L : Addr} {m : Str → Option Value} {news : List (Addr × Obj)} {p : Program} {loose : List Str} {mean : ExcName → Option Value} {mg mb : Str → Option Value} {E : Value → Shared → Prop} {Q : Value → Shared → Prop}
theorem places_use {pl : Addr} (C : PlacesOn prog w p loose mean mg mb h₀ pl) (F : Fr h₀ L s.heap m) (X : (hd.heap_1 w.params).In h₀) (T : Top p loose mean mg mb h₀) (N : News h₀ L s.heap news) (R : Rm A 3)
    (h : ∀ h' d tk', Fr h₀ L h' m → News h₀ L h' news → Q (.bool true) { s with heap := h', drawn := d, toks := tk' }) : wpAny (model prog w) A (call (.ref 157) [.ref pl]) Q E s :=
  C _ _ _ _ F.keep (X.keeps F.keep) (T.keeps F.keep) R fun h' d tk' k => h h' d tk' (Fr.byKeep F k) (News.byKeep N k)
end
theorem w108 : True := by
  k_with "M SameL" => (case' FRESH => (exact rfl))
  trivial
theorem w109 : True := by
  k_with "M CRest" => ((fail_if_success (have := endOfSides)); case' FRESH => ((k_here; k_dflt (refine' CRest.ints0 ?hv (fun i' t' I' oI' D' C' oC' m' h' tk' E' hI' hC' hx' hC2' F' N' n1' n2' n3' ne' => ?_) ?_; (case hv => assumption)); (k_dflt (all_goals (try ((refine (?_ : let q' : _ → Shared → Prop := _; let e' : Value → Shared → Prop := _; wpAny _ _ _ q' e' _)); intro q' e')))))))
  trivial
theorem w110 : True := by
  k_with "M eval ListComp" => ((fail_if_success (have := endOfSides)); case' FRESH => ((k_here; (with_reducible show wpAny _ _ (eval (PySem.Expr.ListComp _ [PySem.Comprehension.mk _ _ [] _] _ _) _) _ _ _); k_dflt (refine' comp_gen0 ?F ?cl ?cell ?kind ?names ?ok ?_ ?hs; (case F => k_asm); (case cl => with_unfolding_all rfl); (case cell => decide); (case kind => rfl); (case names => decide); (case ok => decide +kernel); (case hs => intro _; with_unfolding_all rfl); k_whole))))
  trivial
theorem w111 : True := by
  k_with "M eval ListComp" => ((fail_if_success (have := endOfSides)); case' FRESH => ((k_here; (with_reducible show wpAny _ _ (eval (PySem.Expr.ListComp _ [PySem.Comprehension.mk _ _ [_] _] _ _) _) _ _ _); k_dflt (refine' comp_gen1 ?F ?cl ?cell ?kind ?names ?ok ?_ ?hs; (case F => k_asm); (case cl => with_unfolding_all rfl); (case cell => decide); (case kind => rfl); (case names => decide); (case ok => decide +kernel); (case hs => intro _; with_unfolding_all rfl); k_whole))))
  trivial
theorem w112 : True := by
  k_with "M pyIter ref" => ((fail_if_success (have := endOfSides)); case' FRESH => ((k_here; (with_reducible show wpAny _ _ (pyIter (Value.ref _)) (fun it s₂ => CompG _ _ _ _ _ _ _ _ _ _ _ _ _ it s₂) _ _); k_dflt (refine' comp_iter_tup ?h ?F ?N ?X ?z ?_; (case h => first | rfl | exact Rm.hhd (by assumption)); (case F => k_asm); (case N => k_asm); (case X => first | exact Fr.tup (by k_asm) (by assumption) | exact Fr.tupP (by assumption) (by k_asm) (by k_asm) (by k_all) | exact News.isTup (by k_asm) (by k_mem)); (case z => assumption); k_whole); intro g')))
  trivial
theorem w113 : True := by
  k_with "M call ref" => ((fail_if_success (have := endOfSides)); case' FRESH => ((k_here; (with_reducible show wpAny _ _ (call (Value.ref 157) _) _ _ _); k_dflt (refine' places_use ?C ?F ?X ?T ?N ?R ?_; (case C => assumption); (case F => k_asm); (case X => k_asm); (case T => k_asm); (case N => k_asm); (case R => exact Rm.le (Rm.deeper (by assumption)) (by omega)); k_whole); intro h' d' tk' F' N')))
  trivial
theorem w114 : True := by
  k_with "M compareOp NotEq ref ref" => ((fail_if_success (have := endOfSides)); case' FRESH => ((k_here; k_dflt (refine' neStrs_use ?N ?a ?b ?v ?w ?s ?u ?_; (case N => k_asm); (case a => k_mem); (case b => k_mem); (case v => exact StrsAre.nil); (case w => exact StrsAre.nil); (case s => exact shaped_nil); (case u => exact Rm.units (by assumption)); k_whole))))
  trivial
theorem w115 : True := by
  k_with "M call builtin:len" => ((fail_if_success (have := endOfSides)); case' FRESH => ((k_here; (with_reducible show wpAny _ _ (call (Value.builtin _) [Value.ref _]) _ _ _); k_dflt (refine' len_tup5 ?t ?_; (case t => exact Fr.tup (by k_asm) (by assumption))))))
  trivial
theorem w116 : True := by
  k_with "M subscriptTail" => (case' FRESH => ((k_here; (with_reducible show wpAny _ _ (subscriptTail _ _ (Value.ref _) (Value.int _ _)) _ _ _); k_dflt (refine' item_tupleT ?k1 ?k2 ?k3 ?k4 ?k5 ?_ ?k6; (case k1 => first | exact Fr.tup (by k_asm) (by assumption) | exact News.isTup (by k_asm) (by k_mem)); (case k2 => decide); (case k3 => decide); (case k4 => rfl); (case k5 => rfl); (case k6 => with_unfolding_all rfl); k_whole))))
  trivial
section
variable {prog : Program} {w : World} {p : Program} {loose : List Str} {mean : ExcName → Option Value} {mg mb : Str → Option Value}
set_option maxHeartbeats 1000000 in
theorem isStep_spec : IsStepC prog w p loose mean mg mb := by
  intro A s sp a pl vs ns kd x k1 k2 b E Q X T Rr V C h
  obtain ⟨hA, dA, fA, gA, uA⟩ := A
  obtain rfl : hA = none := Rr.hh
  have ht := V.tup
  have hp := V.path
  have hi := V.nums
  have hz : vs.length ≤ sizeLine := Nat.le_trans V.len (by decide)
  clear V
  refine wpAny_call ?_
  k_dflt (refine' enter0 (binds := [(Str.ofString "thing", .ref sp)]) X T ?ho ?hcd (Rm.room Rr) ?hb ?hl ?_ ?c1 ?c2 ?c3 ?c4)
  case ho => k_dflt k_is
  case hcd => k_dflt k_is
  case hb => exact BindsTo.of_eq rfl
  case hl => exact locs rfl
  case c1 => rfl
  case c2 => rfl
  case c3 => rfl
  case c4 => decide
  intro L h₁ tk1 F N
  refine (?_ : let mM' := _; let aA' := _; wpAny mM' aA' _ _ _ _); intro mM' aA'
  k_fold
  k_steps
  rename Fr _ _ _ _ => F9
  exact h _ _ _ (Fr.keep F9)
end
end
theorem endOfSides : True := trivial
/-! Sides2 -/
section
open PyProof.Rows.LCg
theorem StepV.keep {h h' : Heap} {sp a : Addr} {vs : List Value} {ns : List Int} {kd : Str} {k1 : Tok} {x : Str} {k2 : Tok} {pl : Addr} {b : Bool} (V : StepV h sp a vs ns kd k1 x k2 pl b) (k : Keep h h') : StepV h' sp a vs ns kd k1 x k2 pl b :=
  ⟨V.tup.keeps k, V.path.keeps k, V.nums, V.len⟩
theorem PlacesOn.keep {prog : Program} {w : World} {p : Program} {loose : List Str} {mean : ExcName → Option Value} {mg mb : Str → Option Value} {h h' : Heap} {pl : Addr} (C : PlacesOn prog w p loose mean mg mb h pl) (k : Keep h h') : PlacesOn prog w p loose mean mg mb h' pl :=
  fun A s E Q k' X T R g => C A s E Q (fun _ _ e => k' _ _ (k _ _ e)) X T R g
section
variable {prog : Program} {w : World} {A : Around} {s : Shared} {h₀ : Heap} {L : Addr} {m : Str → Option Value} {news : List (Addr × Obj)} {p : Program} {loose : List Str} {mean : ExcName → Option Value} {mg mb : Str → Option Value} {E : Value → Shared → Prop} {Q : Value → Shared → Prop}
theorem isStep_use {sp a pl : Addr} {vs : List Value} {ns : List Int} {kd x : Str} {k1 k2 : Tok} {b : Bool} (V : StepV h₀ sp a vs ns kd k1 x k2 pl b) (C : PlacesOn prog w p loose mean mg mb h₀ pl) (F : Fr h₀ L s.heap m) (X : (hd.heap_1 w.params).In h₀) (T : Top p loose mean mg mb h₀) (N : News h₀ L s.heap news) (R : Rm A 4)
    (h : ∀ h' d tk', Fr h₀ L h' m → News h₀ L h' news → Q (.bool true) { s with heap := h', drawn := d, toks := tk' }) : wpAny (model prog w) A (call (.ref 231) [.ref sp]) Q E s :=
  isStep_spec _ _ _ _ _ _ _ _ _ _ _ _ _ _ (X.keeps F.keep) (T.keeps F.keep) R (V.keep F.keep) (C.keep F.keep) fun h' d tk' k => h h' d tk' (Fr.byKeep F k) (News.byKeep N k)
theorem told_use {st J td rd R P : Addr} {p0 p1 vl vr vn : Value} {x : Str} {tx : Tok} (Jt : JAt prog w h₀ st J td rd R p0 p1 vl vr) (hx : valueAt [(t0, p0), (t1, p1)] x = some (.ref P)) (F : Fr h₀ L s.heap m) (X : (hd.heap_1 w.params).In h₀) (T : Top p loose mean mg mb h₀) (N : News h₀ L s.heap news) (Rr : Rm A 1)
    (h : ∀ h' tk', Fr h₀ L h' m → News h₀ L h' news → Q (.ref P) { s with heap := h', toks := tk' }) : wpAny (model prog w) A (call (.ref 197) [.ref J, .str x tx, vn]) Q E s :=
  told_spec _ _ _ _ _ _ _ _ _ _ _ _ _ _ _ _ _ (X.keeps F.keep) (T.keeps F.keep) Rr (Jt.keep F.keep) hx rfl fun h' tk' k => h h' tk' (Fr.byKeep F k) (News.byKeep N k)
theorem ruleS_use {st J td rd R pl P1 P2 : Addr} {p0 p1 vl vr va vb vn : Value} {ta tb : Tm} {ts k1 k2 : Tok} (Jt : JAt prog w h₀ st J td rd R p0 p1 vl vr) (hs : PairSrc h₀ pl [.ref P1, .ref P2]) (hp : IsTup h₀ pl #[.ref P1, .ref P2]) (h1 : IsTup h₀ P1 #[.str qx k1, va]) (h2 : IsTup h₀ P2 #[.str qy k2, vb]) (ha : Tv (IsTup h₀) va ta.py) (hb : Tv (IsTup h₀) vb tb.py)
    (F : Fr h₀ L s.heap m) (X : (hd.heap_1 w.params).In h₀) (T : Top p loose mean mg mb h₀) (N : News h₀ L s.heap news) (Rr : Rm A 6)
    (h : ∀ D l r h' d tk' tl, Fr h₀ L h' m → News h₀ L h' (news ++ tl) → AllTup tl → Tp h₀ tl D #[l, r] → Tv (Tp h₀ tl) l (Tm.bin ta tb).py → Tv (Tp h₀ tl) r (Tm.bin tb ta).py → Q (.ref D) { s with heap := h', drawn := d, toks := tk' }) : wpAny (model prog w) A (call (.ref 202) [.ref J, .str (Str.ofString "swap") ts, .ref pl, vn]) Q E s := by
  refine rule_spec _ _ _ _ _ _ _ _ _ _ _ _ _ _ _ _ _ _ _ _ _ _ _ _ (X.keeps F.keep) (T.keeps F.keep) Rr (Jt.keep F.keep) (hs.keep F.keep) (hp.keeps F.keep) (h1.keeps F.keep) (h2.keeps F.keep) (Tv.at0 F ha) (Tv.at0 F hb) fun D l r h' d tk' k hD hl hr => ?_
  have F' := Fr.byKeep F k
  exact h D l r h' d tk' (tups h₀ h') F' (News.app (News.byKeep N k) (news_tups F')) (allTup_tups _ _) (tp_tups F' hD) (hl.mono fun a vs y => tp_tups F' y) (hr.mono fun a vs y => tp_tups F' y)
end
/-- Steps.sides upon a told likeness -/
def SidesTC (prog : Program) (w : World) (p : Program) (loose : List Str) (mean : ExcName → Option Value) (mg mb : Str → Option Value) : Prop :=
  ∀ (A : Around) (s : Shared) (st J td rd R sp a pl P : Addr) (p0 p1 vl vr l r vn : Value) (vs : List Value) (ns : List Int) (x : Str) (k1 k2 : Tok) (b : Bool) (tl tr : Tm) (E : Value → Shared → Prop) (Q : Value → Shared → Prop),
    (hd.heap_1 w.params).In s.heap → Top p loose mean mg mb s.heap → Rm A 7 → JAt prog w s.heap st J td rd R p0 p1 vl vr → StepV s.heap sp a vs ns (Str.ofString "told") k1 x k2 pl b → IsTup s.heap pl #[] → valueAt [(t0, p0), (t1, p1)] x = some (.ref P) → IsTup s.heap P #[l, r] → Tv (IsTup s.heap) l tl.py → Tv (IsTup s.heap) r tr.py →
    (∀ D l' r' h' d tk', Keep s.heap h' → IsTup h' D #[l', r'] → Tv (IsTup h') l' (bif b then tr else tl).py → Tv (IsTup h') r' (bif b then tl else tr).py → Q (.ref D) { s with heap := h', drawn := d, toks := tk' }) →
    wpAny (model prog w) A (call (.ref 259) [.ref st, .ref sp, vn]) Q E s
/-- Steps.sides upon the rule -/
def SidesRC (prog : Program) (w : World) (p : Program) (loose : List Str) (mean : ExcName → Option Value) (mg mb : Str → Option Value) : Prop :=
  ∀ (A : Around) (s : Shared) (st J td rd R sp a pl P1 P2 : Addr) (p0 p1 vl vr va vb vn : Value) (vs : List Value) (ns : List Int) (k1 k2 q1 q2 : Tok) (b : Bool) (ta tb : Tm) (E : Value → Shared → Prop) (Q : Value → Shared → Prop),
    (hd.heap_1 w.params).In s.heap → Top p loose mean mg mb s.heap → Rm A 7 → JAt prog w s.heap st J td rd R p0 p1 vl vr → StepV s.heap sp a vs ns (Str.ofString "rule") k1 (Str.ofString "swap") k2 pl b →
    PairSrc s.heap pl [.ref P1, .ref P2] → IsTup s.heap pl #[.ref P1, .ref P2] → IsTup s.heap P1 #[.str qx q1, va] → IsTup s.heap P2 #[.str qy q2, vb] → Tv (IsTup s.heap) va ta.py → Tv (IsTup s.heap) vb tb.py → ta.Plain → tb.Plain → ta.size ≤ 100 → tb.size ≤ 100 →
    (∀ D l' r' h' d tk', Keep s.heap h' → IsTup h' D #[l', r'] → Tv (IsTup h') l' (bif b then Tm.bin tb ta else Tm.bin ta tb).py → Tv (IsTup h') r' (bif b then Tm.bin ta tb else Tm.bin tb ta).py → Q (.ref D) { s with heap := h', drawn := d, toks := tk' }) →
    wpAny (model prog w) A (call (.ref 259) [.ref st, .ref sp, vn]) Q E s
theorem w117 : True := by
  k_with "M call ref" => ((fail_if_success (have := endOfSides2)); case' FRESH => ((k_here; (with_reducible show wpAny _ _ (call (Value.ref 231) _) _ _ _); k_dflt (refine' isStep_use ?V ?C ?F ?X ?T ?N ?R ?_; (case V => assumption); (case F => k_asm); (case X => k_asm); (case T => k_asm); (case N => k_asm); (case C => assumption); (case R => exact Rm.le (Rm.deeper (by assumption)) (by omega)); k_whole); intro h' d' tk' F' N')))
  trivial
theorem w118 : True := by
  k_with "M call ref" => ((fail_if_success (have := endOfSides2)); case' FRESH => ((k_here; (with_reducible show wpAny _ _ (call (Value.ref 197) _) _ _ _); k_dflt (refine' told_use ?J ?x ?F ?X ?T ?N ?R ?_; (case J => assumption); (case x => assumption); (case F => k_asm); (case X => k_asm); (case T => k_asm); (case N => k_asm); (case R => exact Rm.le (Rm.deeper (by assumption)) (by omega)); k_whole); intro h' tk' F' N')))
  trivial
theorem w119 : True := by
  k_with "M call ref" => ((fail_if_success (have := endOfSides2)); case' FRESH => ((k_here; (with_reducible show wpAny _ _ (call (Value.ref 202) _) _ _ _); k_dflt (refine' ruleS_use ?J ?s ?p ?q1 ?q2 ?ha ?hb ?F ?X ?T ?N ?R ?_; (case J => assumption); (case s => assumption); (case p => assumption); (case q1 => assumption); (case q2 => assumption); (case ha => assumption); (case hb => assumption); (case F => k_asm); (case X => k_asm); (case T => k_asm); (case N => k_asm); (case R => exact Rm.le (Rm.deeper (by assumption)) (by omega)); k_whole); intro D' l' r' h' d' tk' tl' F' N' hA' hD' hl' hr'; (try simp only [List.cons_append, List.nil_append] at N'))))
  trivial
section
variable {prog : Program} {w : World} {p : Program} {loose : List Str} {mean : ExcName → Option Value} {mg mb : Str → Option Value}
set_option maxHeartbeats 1000000 in
theorem sidesT_spec : SidesTC prog w p loose mean mg mb := by
  intro A s st J td rd R sp a pl P p0 p1 vl vr l r vn vs ns x k1 k2 b tl tr E Q X T Rr Jt V hpl hx hP hl hr h
  obtain ⟨hA, dA, fA, gA, uA⟩ := A
  obtain rfl : hA = none := Rr.hh
  have ht := V.tup
  obtain ⟨_, _, _, _, is⟩ := Jt.steps
  obtain ⟨_, _, _, _, _, _, ij⟩ := Jt.judge
  have hon : PlacesOn prog w p loose mean mg mb s.heap pl := fun A s' E Q k X T R g => places0_spec _ _ _ _ _ X T R (hpl.keeps k) g
  refine wpAny_call ?_
  k_dflt (refine' enter0 (binds := [(Str.ofString "self", .ref st), (Str.ofString "step", .ref sp), (Str.ofString "number", vn)]) X T ?ho ?hcd (Rm.room Rr) ?hb ?hl ?_ ?c1 ?c2 ?c3 ?c4)
  case ho => k_dflt k_is
  case hcd => k_dflt k_is
  case hb => exact BindsTo.of_eq rfl
  case hl => exact locs rfl
  case c1 => rfl
  case c2 => rfl
  case c3 => rfl
  case c4 => decide
  intro L h₁ tk1 F N
  refine (?_ : let mM' := _; let aA' := _; wpAny mM' aA' _ _ _ _); intro mM' aA'
  k_fold
  k_steps
  · rename Fr _ _ _ _ => F9
    rename News _ _ _ _ => N9
    rename b = true => hb
    subst hb
    exact h _ _ _ _ _ _ (Fr.keep F9) (IsTup.ofNew N9) (Tv.at0 F9 hr) (Tv.at0 F9 hl)
  · rename Fr _ _ _ _ => F9
    have hb : b = false := by first | assumption | (simpa using (by assumption : ¬ b = true))
    subst hb
    exact h _ _ _ _ _ _ (Fr.keep F9) (hP.keeps (Fr.keep F9)) (Tv.at0 F9 hl) (Tv.at0 F9 hr)
set_option maxHeartbeats 1000000 in
theorem sidesR_spec : SidesRC prog w p loose mean mg mb := by
  intro A s st J td rd R sp a pl P1 P2 p0 p1 vl vr va vb vn vs ns k1 k2 q1 q2 b ta tb E Q X T Rr Jt V hps hpl h1 h2 hva hvb hpa hpb hza hzb h
  obtain ⟨hA, dA, fA, gA, uA⟩ := A
  obtain rfl : hA = none := Rr.hh
  have ht := V.tup
  obtain ⟨_, _, _, _, is⟩ := Jt.steps
  obtain ⟨_, _, _, _, _, _, ij⟩ := Jt.judge
  have hon : PlacesOn prog w p loose mean mg mb s.heap pl := fun A s' E Q k X T R g => places_spec _ _ _ _ _ _ _ _ _ _ _ _ _ X T R (hpl.keeps k) (h1.keeps k) (h2.keeps k) (hva.mono fun _ _ y => y.keeps k) (hvb.mono fun _ _ y => y.keeps k) hpa hpb hza hzb g
  refine wpAny_call ?_
  k_dflt (refine' enter0 (binds := [(Str.ofString "self", .ref st), (Str.ofString "step", .ref sp), (Str.ofString "number", vn)]) X T ?ho ?hcd (Rm.room Rr) ?hb ?hl ?_ ?c1 ?c2 ?c3 ?c4)
  case ho => k_dflt k_is
  case hcd => k_dflt k_is
  case hb => exact BindsTo.of_eq rfl
  case hl => exact locs rfl
  case c1 => rfl
  case c2 => rfl
  case c3 => rfl
  case c4 => decide
  intro L h₁ tk1 F N
  refine (?_ : let mM' := _; let aA' := _; wpAny mM' aA' _ _ _ _); intro mM' aA'
  k_fold
  k_steps
  · rename Fr _ _ _ _ => F9
    rename News _ _ _ _ => N9
    rename b = true => hb
    subst hb
    rename Tv _ _ (Tm.bin ta tb).py => z1
    rename Tv _ _ (Tm.bin tb ta).py => z2
    exact h _ _ _ _ _ _ (Fr.keep F9) (IsTup.ofNew N9) (Tv.at z2 F9 N9 (by k_all)) (Tv.at z1 F9 N9 (by k_all))
  · rename Fr _ _ _ _ => F9
    rename News _ _ _ _ => N9
    have hb : b = false := by first | assumption | (simpa using (by assumption : ¬ b = true))
    subst hb
    rename Tp _ _ _ _ => z0
    rename Tv _ _ (Tm.bin ta tb).py => z1
    rename Tv _ _ (Tm.bin tb ta).py => z2
    exact h _ _ _ _ _ _ (Fr.keep F9) (Fr.tupP z0 F9 N9 (by k_all)) (Tv.at z1 F9 N9 (by k_all)) (Tv.at z2 F9 N9 (by k_all))
end
end
theorem endOfSides2 : True := trivial
/-! StepOk -/
section
open PyProof.Rows.LCg
theorem Tm.same_self (t : Tm) : t.same t = true := (Tm.same_iff t t).mpr rfl
theorem Tv.isRef {P : Addr → Array Value → Prop} {v : Value} {t : Tm} (x : Tv P v t.py) : ∃ a, v = .ref a := let ⟨a, _, _, e, _⟩ := Tm.kids_inv x; ⟨a, e⟩
theorem ne_py {prog : Program} {w : World} {A : Around} {s : Shared} {v u : Value} {t t' : Tm} {Q : Value → Shared → Prop} {E : Value → Shared → Prop} (hv : Tv (IsTup s.heap) v t.py) (hu : Tv (IsTup s.heap) u t'.py) (h1 : t.Plain) (h2 : t'.Plain) (h3 : t.height ≤ 60) (h4 : t'.height ≤ 60) (hk : A.units + 64 < cLine)
    (h : Q (.bool (!t.same t')) s) : wpAny (model prog w) A (compareOp .NotEq v u) Q E s :=
  ne_dataH hv.reads hu.reads (shaped_py h1 h3) (shaped_py h2 h4) hk (by rw [eqv_py]; exact h)
/-- what Steps.sides answers upon a step -/
def SidesOn (prog : Program) (w : World) (p : Program) (loose : List Str) (mean : ExcName → Option Value) (mg mb : Str → Option Value) (h : Heap) (st sp : Addr) (vn : Value) (tl tr : Tm) : Prop :=
  ∀ (A : Around) (s : Shared) (E : Value → Shared → Prop) (Q : Value → Shared → Prop), Keep h s.heap → (hd.heap_1 w.params).In s.heap → Top p loose mean mg mb s.heap → Rm A 7 →
    (∀ D l r h' d tk', Keep s.heap h' → IsTup h' D #[.ref l, .ref r] → Tv (IsTup h') (.ref l) tl.py → Tv (IsTup h') (.ref r) tr.py → Q (.ref D) { s with heap := h', drawn := d, toks := tk' }) → wpAny (model prog w) A (call (.ref 259) [.ref st, .ref sp, vn]) Q E s
section
variable {prog : Program} {w : World} {A : Around} {s : Shared} {h₀ : Heap} {L : Addr} {m : Str → Option Value} {news : List (Addr × Obj)} {p : Program} {loose : List Str} {mean : ExcName → Option Value} {mg mb : Str → Option Value} {E : Value → Shared → Prop} {Q : Value → Shared → Prop}
theorem sidesOn_use {st sp : Addr} {vn : Value} {tl tr : Tm} (C : SidesOn prog w p loose mean mg mb h₀ st sp vn tl tr) (F : Fr h₀ L s.heap m) (X : (hd.heap_1 w.params).In h₀) (T : Top p loose mean mg mb h₀) (N : News h₀ L s.heap news) (R : Rm A 7)
    (h : ∀ D l r h' d tk' t, Fr h₀ L h' m → News h₀ L h' (news ++ t) → AllTup t → Tp h₀ t D #[.ref l, .ref r] → Tv (Tp h₀ t) (.ref l) tl.py → Tv (Tp h₀ t) (.ref r) tr.py → Q (.ref D) { s with heap := h', drawn := d, toks := tk' }) : wpAny (model prog w) A (call (.ref 259) [.ref st, .ref sp, vn]) Q E s :=
  C _ _ _ _ F.keep (X.keeps F.keep) (T.keeps F.keep) R fun D l r h' d tk' k hD hl hr =>
    have F' := Fr.byKeep F k
    h D l r h' d tk' (tups h₀ h') F' (News.app (News.byKeep N k) (news_tups F')) (allTup_tups _ _) (tp_tups F' hD) (hl.mono fun a vs y => tp_tups F' y) (hr.mono fun a vs y => tp_tups F' y)
theorem partAtV_use {v pv : Value} {t u : Tm} {ns : List Int} (F : Fr h₀ L s.heap m) (X : (hd.heap_1 w.params).In h₀) (T : Top p loose mean mg mb h₀) (N : News h₀ L s.heap news) (R : Rm A 1) (hs : sub t ns = some u) (hpv : PathV (IsTup s.heap) pv ns) (hv : Tv (IsTup s.heap) v t.py)
    (h : ∀ a h' tk' tl, Fr h₀ L h' m → News h₀ L h' (news ++ tl) → AllTup tl → Tv (Tp h₀ tl) (.ref a) u.py → Q (.ref a) { s with heap := h', toks := tk' }) :
    wpAny (model prog w) A (call (.ref 131) [v, pv]) Q E s :=
  partAt_use F X T N R hs hpv hv fun v' h' tk' tl F' N' hA hd => by
    obtain ⟨a, rfl⟩ := Tv.isRef hd
    exact h a h' tk' tl F' N' hA hd
end
/-- Steps.stepped where the part is the left side -/
def StepOkC (prog : Program) (w : World) (p : Program) (loose : List Str) (mean : ExcName → Option Value) (mg mb : Str → Option Value) : Prop :=
  ∀ (A : Around) (s : Shared) (st J sp a pl : Addr) (v vn : Value) (vs : List Value) (ns : List Int) (kd x : Str) (k1 k2 : Tok) (b : Bool) (t tl tr : Tm) (E : Value → Shared → Prop) (Q : Value → Shared → Prop),
    (hd.heap_1 w.params).In s.heap → Top p loose mean mg mb s.heap → Rm A 14 → (∃ a t n dS, InstAt s.heap st (instObj 283 dS) 283 (some (dictOf [⟨a, .str (Str.ofString "judge") t, .ref J⟩] n))) → StepV s.heap sp a vs ns kd k1 x k2 pl b → SidesOn prog w p loose mean mg mb s.heap st sp vn tl tr → ns.length ≤ 10 → sub t ns = some tl → Tv (IsTup s.heap) v t.py → tl.Plain → tl.height ≤ 60 →
    (∀ v' h' d tk', Keep s.heap h' → Tv (IsTup h') v' (rep t ns tr).py → Q v' { s with heap := h', drawn := d, toks := tk' }) →
    wpAny (model prog w) A (call (.ref 266) [.ref st, v, .ref sp, vn]) Q E s
theorem w120 : True := by
  k_with "M call ref" => ((fail_if_success (have := endOfStepOk)); case' FRESH => ((k_here; (with_reducible show wpAny _ _ (call (Value.ref 259) _) _ _ _); k_dflt (refine' sidesOn_use ?C ?F ?X ?T ?N ?R ?_; (case C => assumption); (case F => k_asm); (case X => k_asm); (case T => k_asm); (case N => k_asm); (case R => exact Rm.le (Rm.deeper (by assumption)) (by omega)); k_whole); intro D' l' r' h' d' tk' tl' F' N' hA' hD' hl' hr'; (try simp only [List.cons_append, List.nil_append] at N'))))
  trivial
theorem w121 : True := by
  k_with "M call ref" => ((fail_if_success (have := endOfStepOk)); case' FRESH => ((k_here; (with_reducible show wpAny _ _ (call (Value.ref 131) _ _) _ _ _); k_dflt (refine' partAtV_use ?F ?X ?T ?N ?R ?hs ?hp ?hv ?_; (case F => k_asm); (case X => k_asm); (case T => k_asm); (case N => k_asm); (case R => exact Rm.le (Rm.deeper (by assumption)) (by omega)); (case hv => exact Tv.at0 (by k_asm) (by assumption)); (case hp => exact PathV.of (Fr.tup (by k_asm) (by assumption)) (by assumption)); (case hs => assumption); k_whole); intro v' h' tk' tl' F' N' hA' hd'; (try simp only [List.cons_append, List.nil_append] at N'))))
  trivial
theorem w122 : True := by
  k_with "M call ref" => ((fail_if_success (have := endOfStepOk)); case' FRESH => ((k_here; (with_reducible show wpAny _ _ (call (Value.ref 138) _ _) _ _ _); k_dflt (refine' repl_use (repl_all _) ?F ?X ?T ?N ?R ?hl ?hs ?hp ?hv ?hu ?_; (case F => k_asm); (case X => k_asm); (case T => k_asm); (case N => k_asm); (case hv => exact Tv.at0 (by k_asm) (by assumption)); (case hu => exact Tv.at (by assumption) (by k_asm) (by k_asm) (by k_all)); (case hp => exact PathV.of (Fr.tup (by k_asm) (by assumption)) (by assumption)); (case R => exact Rm.le (Rm.deeper (by assumption)) (by omega)); (case hl => assumption); (case hs => assumption); k_whole); intro v' h' tk' tl' F' N' hA' hd'; (try simp only [List.cons_append, List.nil_append] at N'))))
  trivial
theorem w123 : True := by
  k_with "M compareOp NotEq ref ref" => ((fail_if_success (have := endOfStepOk)); case' FRESH => ((k_here; k_dflt (refine' ne_py ?v ?u ?a ?b ?c ?d ?k ?_; (case v => exact Tv.at (by assumption) (by k_asm) (by k_asm) (by k_all)); (case u => exact Tv.at (by assumption) (by k_asm) (by k_asm) (by k_all)); (case a => assumption); (case b => assumption); (case c => assumption); (case d => assumption); (case k => exact Rm.units (by assumption)); k_whole); (rw [Tm.same_self]))))
  trivial
section
variable {prog : Program} {w : World} {p : Program} {loose : List Str} {mean : ExcName → Option Value} {mg mb : Str → Option Value}
set_option maxHeartbeats 1000000 in
theorem stepOk : StepOkC prog w p loose mean mg mb := by
  intro A s st J sp a pl v vn vs ns kd x k1 k2 b t tl tr E Q X T Rr hst V C hlen hsub hv hpl hht h
  obtain ⟨hA, dA, fA, gA, uA⟩ := A
  obtain rfl : hA = none := Rr.hh
  have ht := V.tup
  have hp := V.path
  have hi := V.nums
  obtain ⟨_, _, _, _, is⟩ := hst
  clear V
  refine wpAny_call ?_
  k_dflt (refine' enter0 (binds := [(Str.ofString "self", .ref st), (Str.ofString "term", v), (Str.ofString "step", .ref sp), (Str.ofString "number", vn)]) X T ?ho ?hcd (Rm.room Rr) ?hb ?hl ?_ ?c1 ?c2 ?c3 ?c4)
  case ho => k_dflt k_is
  case hcd => k_dflt k_is
  case hb => exact BindsTo.of_eq rfl
  case hl => exact locs rfl
  case c1 => rfl
  case c2 => rfl
  case c3 => rfl
  case c4 => decide
  intro L h₁ tk1 F N
  refine (?_ : let mM' := _; let aA' := _; wpAny mM' aA' _ _ _ _); intro mM' aA'
  k_fold
  k_steps
  rename Fr _ _ _ _ => F9
  rename News _ _ _ _ => N9
  rename Tv _ _ (rep t ns tr).py => z
  exact h _ _ _ _ (Fr.keep F9) (Tv.at z F9 N9 (by k_all))
end
end
theorem endOfStepOk : True := trivial
/-! ExcI -/
section
set_option maxRecDepth 100000
/-! a try around an own exception: it looks at it, and takes it or lets it pass -/
theorem Ro.mark {A : Around} {k : Nat} {v : Option Value} (r : Ro A k) : Ro (A.mark v) k := ⟨r.dp, r.un⟩
section
variable {prog : Program} {w : World} {A : Around} {E : Value → Shared → Prop} {s : Shared} {base : Heap} {env : Env} {outer : List Env} {L e : Addr} {oe : Obj} {vs : Array Value} {hs : List ExceptHandler} {Q : Flow → Shared → Prop}
theorem try_first (hfr : A.frames = some (env :: outer)) (hl : s.heap.FunFrames base (env :: outer)) (hf : env.frame = some L)
    (he : s.heap.get? e = some (exAt oe vs .none)) (hkb : base.StaysIn s.heap) (hen : base.get? e = none) (hsz : 1 < vs.size)
    (h : ∀ h', Fly base (env :: outer) e oe vs .none h' → s.heap.UpToSlots h' → wpAny (model prog w) A (handleBy (.ref e) env hs) Q E { s with heap := h' }) :
    wpAny (model prog w) A (noteFrame (.ref e) env) (fun _ s₂ => wpAny (model prog w) A (setFlight (.ref e) none) (fun _ s₃ => wpAny (model prog w) A (handleBy (.ref e) env hs) Q E s₃) E s₂) E s :=
  note_first hfr hl hf he hkb hen hsz fun h₁ x u => flight_ex (s := { s with heap := h₁ }) (f := none) hsz x fun h₂ x₂ u₂ => h h₂ x₂ (u.trans u₂)
theorem try_next (hfr : A.frames = some (env :: outer)) (hf : env.frame = some L) (hsz : 1 < vs.size) (x : Fly base (env :: outer) e oe vs .none s.heap)
    (h : ∀ h', Fly base (env :: outer) e oe vs .none h' → s.heap.UpToSlots h' → wpAny (model prog w) A (handleBy (.ref e) env hs) Q E { s with heap := h' }) :
    wpAny (model prog w) A (noteFrame (.ref e) env) (fun _ s₂ => wpAny (model prog w) A (setFlight (.ref e) none) (fun _ s₃ => wpAny (model prog w) A (handleBy (.ref e) env hs) Q E s₃) E s₂) E s :=
  note_next hfr hf hsz x fun h₁ x u => flight_ex (s := { s with heap := h₁ }) (f := none) hsz x fun h₂ x₂ u₂ => h h₂ x₂ (u.trans u₂)
/-- a new own exception is raised in a handler and goes out of it -/
theorem handler_out {M : Model} {A' : Around} (hfr : A'.frames = some (env :: outer)) (hl : s.heap.FunFrames base (env :: outer)) (hf : env.frame = some L)
    (he : s.heap.get? e = some (exAt oe vs .none)) (hkb : base.StaysIn s.heap) (hen : base.get? e = none) (hsz : 1 < vs.size)
    (h : ∀ h', Fly base (env :: outer) e oe vs (rawInt L) h' → s.heap.UpToSlots h' → E (.ref e) { s with heap := h' }) : notedBy M A' env (cameBackBy M A env E) (.ref e) s := by
  unfold notedBy
  refine note_first hfr hl hf he hkb hen hsz fun h₁ x u => ?_
  obtain ⟨T, oT, ts, he', _⟩ := x.tr
  unfold cameBackBy
  refine wpAny_bind (wpAny_field (s := { s with heap := h₁ }) he' rfl (x := .ref T) (by simp [hsz]) ?_)
  rw [if_neg (show ¬ ((Value.ref T == Value.none) = true) from by simp)]
  rw [hf]
  exact flight_ex (s := { s with heap := h₁ }) (f := some L) hsz x fun h₂ x₂ u₂ => h h₂ x₂ (u.trans u₂)
end
section
variable {prog : Program} {w : World} {A : Around} {E : Value → Shared → Prop} {s : Shared} {base : Heap} {env : Env} {outer : List Env} {L e C D : Addr} {oe : Obj} {vs : Array Value} {K : Frag} {Q : Flow → Shared → Prop} {t : PySem.Expr} {b₀ : Stmt} {suite : List Stmt} {pos : Pos}
theorem matches_not {M : Model} {E : Value → Shared → Prop} {s : Shared} {Q : Bool → Shared → Prop} (X : K.In s.heap) (hC : IsExc K C) (hD : IsExc K D) (he : s.heap.get? e = some oe) (hc : oe.cls = .ref C) (hne : (D == C) = false) (hne' : (D == 47) = false) (hq : Q false s) :
    wpAny M A (excMatches (.ref e) (.ref D)) Q E s := by
  obtain ⟨nm, N, a, b, c, h1⟩ := hC
  obtain ⟨nm', N', a', b', c', h2⟩ := hD
  have h1 := X _ _ h1
  have h2 := X _ _ h2
  have hDB : (Value.ref D :: excBm).contains (.type "BaseException") = true := by rw [List.contains_cons]; simp
  have hCD : (Value.ref C :: excBm).contains (.ref D) = false := by
    simp only [List.contains_cons, List.contains_nil, Bool.or_false]
    simp at hne hne'
    simp [hne, hne']
  obtain ⟨hh, g, d, tk, os⟩ := s
  have f := tc_notTuple
  unfold excMatches
  repeat (first | (with_reducible refine wpAny_loadPart_at he ?_; rw [hc]) | with_reducible refine wpAny_loadPart_at h2 ?_ | (with_reducible refine wpAny_isSubtype_exc h2 ?_; rw [hDB]) | (with_reducible refine wpAny_isSubtype_exc h1 ?_; rw [hCD]) | wp_step)
  exact hq
/-- what stands when the clause's class has been read -/
def Clause (base : Heap) (env : Env) (outer : List Env) (e D : Addr) (oe : Obj) (vs : Array Value) (K : Frag) (P : Shared → Prop) (c : Value) (s : Shared) : Prop :=
  c = .ref D ∧ K.In s.heap ∧ Fly base (env :: outer) e oe vs .none s.heap ∧ P s
theorem hb_miss (hf : env.frame = some L) (hsz : 1 < vs.size) (hC : IsExc K C) (hD : IsExc K D) (hc : oe.cls = .ref C) (hne : (D == C) = false) (hne' : (D == 47) = false)
    (h : wpAny (model prog w) (A.mark (some (.ref e))) (eval t env) (Clause base env outer e D oe vs K fun s₁ => ∀ h', Fly base (env :: outer) e oe vs (rawInt L) h' → s₁.heap.UpToSlots h' → E (.ref e) { s₁ with heap := h' }) (notedBy (model prog w) (A.mark (some (.ref e))) env (cameBackBy (model prog w) A env E)) s) :
    wpAny (model prog w) A (handleBy (.ref e) env [.ExceptHandler (some t) none (b₀ :: suite) pos]) Q E s := by
  refine wpAny_handleBy_cons (codeAny_handlers_test (wpAny_mono h (fun c s₁ h₁ => ?_) fun _ _ y => y)) (by intro q; cases q)
  obtain ⟨rfl, X, x, hk⟩ := h₁
  obtain ⟨T, oT, ts, he, _⟩ := id x.tr
  refine matches_not X hC hD he hc hne hne' ?_
  refine wpAny_handleBy_nil ?_
  unfold PySem.passOn
  refine wpAny_bind (wpAny_field he rfl (x := .ref T) (by simp [hsz]) ?_)
  rw [if_neg (show ¬ ((Value.ref T == Value.none) = true) from by simp)]
  rw [hf]
  exact wpAny_bind (flight_ex (f := some L) hsz x fun h₂ x₂ u₂ => wpAny_throw (hk h₂ x₂ u₂))
theorem hb_hit (hsz : 1 < vs.size) (hC : IsExc K C) (hc : oe.cls = .ref C)
    (h : wpAny (model prog w) (A.mark (some (.ref e))) (eval t env) (Clause base env outer e C oe vs K fun s₁ => ∀ h', Fly base (env :: outer) e oe vs .none h' → s₁.heap.UpToSlots h' → wpAny (model prog w) (A.mark (some (.ref e))) (execs (b₀ :: suite) env) Q (notedBy (model prog w) (A.mark (some (.ref e))) env (cameBackBy (model prog w) A env E)) { s₁ with heap := h' }) (notedBy (model prog w) (A.mark (some (.ref e))) env (cameBackBy (model prog w) A env E)) s) :
    wpAny (model prog w) A (handleBy (.ref e) env [.ExceptHandler (some t) none (b₀ :: suite) pos]) Q E s := by
  refine wpAny_handleBy_cons (codeAny_handlers_test (wpAny_mono h (fun c s₁ h₁ => ?_) fun _ _ y => y)) (by intro q; cases q)
  obtain ⟨rfl, X, x, hk⟩ := h₁
  obtain ⟨nm, N, a, b, c, hCl⟩ := hC
  obtain ⟨T, oT, ts, he, _⟩ := id x.tr
  have hCh := X _ _ hCl
  obtain ⟨hh, g, d, tk, os⟩ := s₁
  refine wpAny_excMatches_sub_self hCh he hc (by decide) ?_
  refine codeAny_handlers_suite ?_
  exact flight_ex (f := none) hsz x fun h₂ x₂ u₂ => hk h₂ x₂ u₂
end
section
variable {base hr h₁ h : Heap} {outer : List Env} {L a e d t1 : Addr} {name : Str} {scope : Scope} {cd c : Value} {C : Addr} {o : Obj}
/-- the ground for the flight of a new own exception out of its frame -/
theorem fresh_B {D : Obj → Prop} (ff : hr.FunFrames base (envOf name scope L a cd :: outer)) (st : base.StaysIn hr)
    (he : hr.get? e = none) (hd : hr.get? d = none) (hde : d ≠ e) (kp : ∀ b o, b ≠ e → hr.get? b = some o → h.get? b = some o) (hx : h.get? e = some (excObj C (some d) #[.ref t1, .none, c, .none, .bool false, .none])) (hdo : h.get? d = some o) (hD : D o) (hsl : h₁.UpToSlots h) :
    ∃ B, h.FunFrames B (envOf name scope L a cd :: outer) ∧ B.StaysIn h ∧ B.get? e = none ∧ base.StaysIn B ∧ ∀ h', Fly B outer e (excObj C (some d) #[.ref t1, .none, c, .none, .bool false, .none]) #[.ref t1, .none, c, .none, .bool false, .none] .none h' → h.UpToSlots h' → Flown base outer C D c e h₁ h' := by
  have kp : Keep hr h := fun b o q => kp b o (fun z => by rw [z, he] at q; cases q) q
  have ff' := funFrames_stays kp ff
  let F := e :: fAddrs (envOf name scope L a cd :: outer)
  have nd : d ∉ F := fun hm => by
    rcases List.mem_cons.mp hm with rfl | hm
    · exact hde rfl
    · obtain ⟨_, o', ho', _⟩ := ff.mem hm
      rw [hd] at ho'; cases ho'
  have stB : base.StaysIn (hideAll h F) := fun b ob q => hideAll_get _ (kp _ _ (st _ _ q)) fun hm => by
    rcases List.mem_cons.mp hm with rfl | hm
    · rw [st _ _ q] at he; cases he
    · rw [(ff.mem hm).1] at q; cases q
  refine ⟨hideAll h F, funFrames_base' ff' fun b hb => hideAll_none _ (.tail _ hb), fun b ob q => of_hideAll _ q, hideAll_none _ (.head _), stB, fun h' x u => ⟨⟨_, d, t1, o, stB, hideAll_get _ hdo nd, hD, ?_, x⟩, hsl.trans u⟩⟩
  cases q : base.get? e with
  | none => rfl
  | some ob => rw [st _ _ q] at he; cases he
end
section
variable {prog : Program} {w : World} {A : Around} {E : Value → Shared → Prop} {s : Shared} {base hr h₁ : Heap} {outer : List Env} {L a e d t1 : Addr} {name : Str} {scope : Scope} {cd c : Value} {C : Addr} {o : Obj} {hs : List ExceptHandler} {Q : Flow → Shared → Prop}
/-- what follows a flight's start: the heap of the flight, and how it ends -/
def Started (base : Heap) (env : Env) (outer : List Env) (C : Addr) (D : Obj → Prop) (c : Value) (e : Addr) (h₁ h h' : Heap) (fl : Value) (d t1 : Addr) (B : Heap) : Prop :=
  base.StaysIn B ∧ h.UpToSlots h' ∧ Fly B (env :: outer) e (excObj C (some d) #[.ref t1, .none, c, .none, .bool false, .none]) #[.ref t1, .none, c, .none, .bool false, .none] fl h' ∧
    ∀ h'', Fly B outer e (excObj C (some d) #[.ref t1, .none, c, .none, .bool false, .none]) #[.ref t1, .none, c, .none, .bool false, .none] .none h'' → h'.UpToSlots h'' → Flown base outer C D c e h₁ h''
theorem try_fresh {D : Obj → Prop} (hfr : A.frames = some (envOf name scope L a cd :: outer)) (ff : hr.FunFrames base (envOf name scope L a cd :: outer)) (st : base.StaysIn hr)
    (he : hr.get? e = none) (hd : hr.get? d = none) (hde : d ≠ e) (kp : Keep hr s.heap) (hx : s.heap.get? e = some (excObj C (some d) #[.ref t1, .none, c, .none, .bool false, .none])) (hdo : s.heap.get? d = some o) (hD : D o) (hsl : h₁.UpToSlots s.heap)
    (h : ∀ B h', Started base (envOf name scope L a cd) outer C D c e h₁ s.heap h' .none d t1 B → wpAny (model prog w) A (handleBy (.ref e) (envOf name scope L a cd) hs) Q E { s with heap := h' }) :
    wpAny (model prog w) A (noteFrame (.ref e) (envOf name scope L a cd)) (fun _ s₂ => wpAny (model prog w) A (setFlight (.ref e) none) (fun _ s₃ => wpAny (model prog w) A (handleBy (.ref e) (envOf name scope L a cd) hs) Q E s₃) E s₂) E s := by
  obtain ⟨B, b1, b2, b3, b4, b5⟩ := fresh_B (D := D) ff st he hd hde (fun b o _ q => kp b o q) hx hdo hD hsl
  exact try_first hfr b1 rfl hx b2 b3 (by simp) fun h' y u => h B h' ⟨b4, u, y, fun h'' y' u' => b5 h'' y' (u.trans u')⟩
theorem handler_fresh {M : Model} {A' : Around} {D : Obj → Prop} (hfr : A'.frames = some (envOf name scope L a cd :: outer)) (ff : hr.FunFrames base (envOf name scope L a cd :: outer)) (st : base.StaysIn hr)
    (he : hr.get? e = none) (hd : hr.get? d = none) (hde : d ≠ e) (kp : ∀ b o, b ≠ e → hr.get? b = some o → s.heap.get? b = some o) (hx : s.heap.get? e = some (excObj C (some d) #[.ref t1, .none, c, .none, .bool false, .none])) (hdo : s.heap.get? d = some o) (hD : D o) (hsl : h₁.UpToSlots s.heap)
    (h : ∀ B h', Started base (envOf name scope L a cd) outer C D c e h₁ s.heap h' (rawInt L) d t1 B → E (.ref e) { s with heap := h' }) : notedBy M A' (envOf name scope L a cd) (cameBackBy M A (envOf name scope L a cd) E) (.ref e) s := by
  obtain ⟨B, b1, b2, b3, b4, b5⟩ := fresh_B (D := D) ff st he hd hde kp hx hdo hD hsl
  exact handler_out hfr b1 rfl hx b2 b3 (by simp) fun h' y u => h B h' ⟨b4, u, y, fun h'' y' u' => b5 h'' y' (u.trans u')⟩
end
end
/-! StepBad -/
section
open PyProof.Rows.LCg
section
variable {prog : Program} {w : World} {A : Around} {s : Shared} {h₀ base : Heap} {outer : List Env} {L : Addr} {m : Str → Option Value} {news : List (Addr × Obj)} {p : Program} {loose : List Str} {mean : ExcName → Option Value} {mg mb : Str → Option Value} {E : Value → Shared → Prop} {Q : Value → Shared → Prop}
theorem mkp_use {v n : Value} (PO : ProgOk prog) (F : Fr h₀ L s.heap m) (X : (hd.heap_1 w.params).In h₀) (T : Top p loose mean mg mb h₀) (R : Ro A 3) (hv : handedIn v = true) (hn : handedIn n = true)
    (h : ∀ h' tk e d t1 o, s.heap.get? e = none → s.heap.get? d = none → d ≠ e → Keep s.heap h' → h'.get? e = some (excObj 100 (some d) (excVs t1)) → h'.get? d = some o → placeDict v n o → (hd.heap_1 w.params).In h' → Q (.ref e) { s with heap := h', toks := tk }) :
    wpAny (model prog w) A (call (.ref 100) [v, n]) Q E s :=
  mk_paper _ _ _ _ _ _ PO (X.keeps F.keep) (T.keeps F.keep) R hv hn fun h' tk e d t1 o a b c k x y z => h h' tk e d t1 o a b c k x y z (X.keeps fun b o q => k _ _ (F.keep b o q))
theorem partAtB_use {v pv : Value} {t tl : Tm} {ns : List Int} (PO : ProgOk prog) (F : Fr h₀ L s.heap m) (X : (hd.heap_1 w.params).In h₀) (T : Top p loose mean mg mb h₀) (N : News h₀ L s.heap news) (hAf : A.frames = some outer) (hff : s.heap.FunFrames base outer) (hst : base.StaysIn h₀) (R : Rm A 5) (hbd : ∀ i ∈ ns, -1000 ≤ i ∧ i ≤ 1000) (hpv : PathV (IsTup s.heap) pv ns) (hv : Tv (IsTup s.heap) v t.py)
    (hbad : ∀ u, sub t ns = some u → u.Plain ∧ u.height ≤ 60 ∧ u.same tl = false)
    (h : ∀ u : Tm, u.Plain → u.height ≤ 60 → u.same tl = false → ∀ a h' tk' tl', Fr h₀ L h' m → News h₀ L h' (news ++ tl') → AllTup tl' → Tv (Tp h₀ tl') (.ref a) u.py → Q (.ref a) { s with heap := h', toks := tk' })
    (hr : ∀ h' tk' e, Flown base outer 60 (fun _ => True) .none e s.heap h' → E (.ref e) { s with heap := h', toks := tk' }) :
    wpAny (model prog w) A (call (.ref 131) [v, pv]) Q E s := by
  refine partAt2 _ _ _ _ _ _ base outer _ _ PO (X.keeps F.keep) (T.keeps F.keep) hAf hff (fun b o q => F.keep _ _ (hst b o q)) R hbd hpv hv (fun u hs v' h' tk' k hd => ?_) fun _ h' tk' e fl => hr h' tk' e fl
  have F' := Fr.byKeep F k
  obtain ⟨a, rfl⟩ := Tv.isRef hd
  obtain ⟨b1, b2, b3⟩ := hbad u hs
  exact h u b1 b2 b3 a h' tk' (tups h₀ h') F' (News.app (News.byKeep N k) (news_tups F')) (allTup_tups _ _) (hd.mono fun a vs y => tp_tups F' (y.keeps k))
end
/-- a frame upon another ground, when an exception has passed -/
theorem Fr.ground {h₀ base h h' : Heap} {L : Addr} {m : Str → Option Value} (F : Fr h₀ L h m) (hsz : base.objs.size ≤ h₀.objs.size) (sl : h.UpToSlots h') (st : base.StaysIn h') : Fr base L h' m := by
  obtain ⟨oL, es, ep, hL, hd, hk, hf⟩ := F.ns
  obtain ⟨sl', e⟩ := sl _ _ hL (fun vs q => by rw [hd] at q; cases q)
  exact ⟨⟨_, es, ep, e, hd, hk, hf⟩, fun b o q => st b o q, Nat.le_trans hsz F.above⟩
theorem News.none (h₀ : Heap) (L : Addr) (h : Heap) : News h₀ L h [] := fun q hq => nomatch hq
theorem base_frames {B base h : Heap} {l : List Env} (k : base.StaysIn B) (f : h.FunFrames B l) : h.FunFrames base l := funFrames_base' f fun a ha => by
  obtain ⟨n, _⟩ := f.mem ha
  cases q : base.get? a with
  | none => rfl
  | some o => rw [k _ _ q] at n; cases n
/-- Steps.stepped where the part is not the left side -/
def StepBadC (prog : Program) (w : World) (p : Program) (loose : List Str) (mean : ExcName → Option Value) (mg mb : Str → Option Value) : Prop :=
  ∀ (A : Around) (s : Shared) (st J sp a pl : Addr) (v vn : Value) (vs : List Value) (ns : List Int) (kd x : Str) (k1 k2 : Tok) (b : Bool) (t tl tr : Tm) (base : Heap) (outer : List Env) (E : Value → Shared → Prop) (Q : Value → Shared → Prop),
    ProgOk prog → (hd.heap_1 w.params).In s.heap → Top p loose mean mg mb s.heap → A.frames = some outer → s.heap.FunFrames base outer → base.StaysIn s.heap → (hd.heap_1 w.params).In base → Top p loose mean mg mb base → base.objs.size ≤ s.heap.objs.size → Rm A 14 →
    (∃ a t n dS, InstAt s.heap st (instObj 283 dS) 283 (some (dictOf [⟨a, .str (Str.ofString "judge") t, .ref J⟩] n))) → StepV s.heap sp a vs ns kd k1 x k2 pl b → SidesOn prog w p loose mean mg mb s.heap st sp vn tl tr → (∀ i ∈ ns, -1000 ≤ i ∧ i ≤ 1000) → Tv (IsTup s.heap) v t.py → tl.Plain → tl.height ≤ 60 → handedIn vn = true →
    (∀ u, sub t ns = some u → u.Plain ∧ u.height ≤ 60 ∧ u.same tl = false) →
    (∀ h' d tk' e c v, Flown base outer 100 (placeDict v vn) c e s.heap h' → E (.ref e) { s with heap := h', drawn := d, toks := tk' }) →
    wpAny (model prog w) A (call (.ref 266) [.ref st, v, .ref sp, vn]) Q E s
theorem w124 : True := by
  k_with "M exec Raise some none" => ((fail_if_success (have := endOfStepBad)); case' FRESH => ((k_here; k_dflt (refine Raise_ex (C := 100) ?_))))
  trivial
theorem w125 : True := by
  k_with "M call ref" => ((fail_if_success (have := endOfStepBad)); case' FRESH => ((k_here; (with_reducible show wpAny _ _ (call (Value.ref 100) _) _ _ _); k_dflt (refine' mkp_use ?P ?F ?X ?T ?R ?v ?n ?_; (case P => assumption); (case F => k_asm); (case X => k_asm); (case T => k_asm); (case R => first | exact Ro.le (Ro.deeper (Rm.ro (by assumption))) (by omega) | exact Ro.mark (Ro.le (Ro.deeper (Rm.ro (by assumption))) (by omega))); (case v => rfl); (case n => assumption)); intro h' tk' e' d' t' o' x1' x2' x3' x4' x5' x6' x7' x8'; refine Stop.in ?_)))
  trivial
theorem w126 : True := by
  k_with "M call ref" => ((fail_if_success (have := endOfStepBad)); case' FRESH => ((k_here; (with_reducible show wpAny _ _ (call (Value.ref 259) _) _ _ _); k_dflt (refine' sidesOn_use ?C ?F ?X ?T ?N ?R ?_; (case C => assumption); (case F => k_asm); (case X => k_asm); (case T => k_asm); (case N => k_asm); (case R => exact Rm.le (Rm.deeper (by assumption)) (by omega)); k_whole); intro D' l' r' h' d' tk' tl' F' N' hA' hD' hl' hr'; (try simp only [List.cons_append, List.nil_append] at N'))))
  trivial
theorem w127 : True := by
  k_with "M call ref" => ((fail_if_success (have := endOfStepBad)); case' FRESH => ((k_here; (with_reducible show wpAny _ _ (call (Value.ref 131) _ _) _ _ _); k_dflt (refine' partAtB_use ?P ?F ?X ?T ?N ?hf ?ff ?st ?R ?bd ?hp ?hv ?hs ?ok ?er; (case P => assumption); (case F => k_asm); (case X => k_asm); (case T => k_asm); (case N => k_asm); (case hf => exact Around.frames_deeper (by assumption)); (case ff => exact frames_push (by k_asm) (by assumption) (funFrames_stays (Fr.keep (by k_asm)) (by assumption)) rfl); (case st => assumption); (case R => exact Rm.le (Rm.deeper (by assumption)) (by omega)); (case bd => assumption); (case hv => exact Tv.at0 (by k_asm) (by assumption)); (case hp => exact PathV.of (Fr.tup (by k_asm) (by assumption)) (by assumption)); (case hs => assumption); k_whole); rotate_left; (intro h' tk' e' fl'; refine Stop.in ?_); rotate_left; intro u' u1' u2' u3' v' h' tk' tl' F' N' hA' hd'; (try simp only [List.cons_append, List.nil_append] at N'))))
  trivial
theorem w128 : True := by
  k_with "M compareOp NotEq ref ref" => ((fail_if_success (have := endOfStepBad)); case' FRESH => ((k_here; k_dflt (refine' ne_py ?v ?u ?a ?b ?c ?d ?k ?_; (case v => exact Tv.at (by assumption) (by k_asm) (by k_asm) (by k_all)); (case u => exact Tv.at (by assumption) (by k_asm) (by k_asm) (by k_all)); (case a => assumption); (case b => assumption); (case c => assumption); (case d => assumption); (case k => exact Rm.units (by assumption)); k_whole); (rw [show Tm.same _ _ = false from by assumption]))))
  trivial
section
variable {prog : Program} {w : World} {p : Program} {loose : List Str} {mean : ExcName → Option Value} {mg mb : Str → Option Value}
set_option maxHeartbeats 1000000 in
theorem stepBad : StepBadC prog w p loose mean mg mb := by
  intro A s st J sp a pl v vn vs ns kd x k1 k2 b t tl tr base outer E Q PO X T hAf hff hbs Xb Tb hsz Rr hst V C hbd hv hpl hht hvn hbad h
  obtain ⟨hA, dA, fA, gA, uA⟩ := A
  obtain rfl : hA = none := Rr.hh
  have ht := V.tup
  have hp := V.path
  have hi := V.nums
  obtain ⟨_, _, _, _, is⟩ := hst
  clear V
  refine wpAny_call ?_
  k_dflt (refine' enter0 (binds := [(Str.ofString "self", .ref st), (Str.ofString "term", v), (Str.ofString "step", .ref sp), (Str.ofString "number", vn)]) X T ?ho ?hcd (Rm.room Rr) ?hb ?hl ?_ ?c1 ?c2 ?c3 ?c4)
  case ho => k_dflt k_is
  case hcd => k_dflt k_is
  case hb => exact BindsTo.of_eq rfl
  case hl => exact locs rfl
  case c1 => rfl
  case c2 => rfl
  case c3 => rfl
  case c4 => decide
  intro L h₁ tk1 F N
  have hbL : base.get? L = none := by
    cases q : base.get? L with
    | none => rfl
    | some o => exact absurd (Nat.lt_of_lt_of_le (Heap.lt_size (hbs _ _ q)) F.above) (Nat.lt_irrefl _)
  refine (?_ : let mM' := _; let aA' := _; wpAny mM' aA' _ _ _ _); intro mM' aA'
  k_fold
  k_steps
  · rename Fr _ _ _ _ => F9
    rename_i h9 tk9 e9 d9 t9 o9 x1 x2 x3 x4 x5 x6 x7 x8
    have kk : Keep s.heap _ := fun b o q => x4 b o (F9.keep b o q)
    refine Stop.out ⟨_, _, _, _, rfl, x5, rfl, X.keeps kk, isExc100 _, wpAny_raiseNew_none rfl ?_⟩
    refine try_fresh (base := base) (h₁ := s.heap) (outer := outer) (c := .none) (D := placeDict _ vn) (Around.frames_deeper hAf) (by exact frames_push F9 hbL (funFrames_stays (Fr.keep F9) hff) rfl) (fun b o q => F9.keep _ _ (hbs b o q)) x1 x2 x3 x4 x5 x6 x7 (Heap.UpToSlots.of_keeps kk) fun B h2 st2 => ?_
    obtain ⟨b1, b2, b3, b4⟩ := st2
    refine hb_miss (base := B) (outer := outer) (oe := excObj 100 (some d9) (excVs t9)) (vs := excVs t9) (K := hd.heap_1 w.params) rfl (by simp) (isExc100 w.params) (isExc60 w.params) rfl rfl rfl ?_
    have F2 := Fr.ground F9 hsz ((Heap.UpToSlots.of_keeps x4).trans b2) (fun b o q => b3.stays b o (b1 b o q))
    clear F9
    rename News _ _ _ _ => N9
    clear N9
    have N2 := News.none base L h2
    k_steps
    refine ⟨rfl, Xb.keeps (Fr.keep F2), b3, fun h3 y3 u3 => ?_⟩
    refine leave_noted rfl (by simp) y3 fun h4 y4 u4 => ?_
    exact h _ _ _ _ _ _ (b4 h4 y4 (u3.trans u4))
  · rename Fr _ _ _ _ => F9
    rename News _ _ _ _ => N9
    rename_i h9 tk9 e0 fl
    refine Stop.out ?_
    have kk : Keep s.heap _ := fun b o q => F9.keep b o q
    obtain ⟨⟨B, d0, t0, o0, k1, k2, k3, k4, x⟩, u⟩ := fl
    refine try_next (Around.frames_deeper hAf) rfl (by simp) x fun h2 y u2 => ?_
    refine hb_hit (base := B) (outer := outer) (oe := excObj 60 (some d0) (excVs t0)) (vs := excVs t0) (K := hd.heap_1 w.params) (by simp) (isExc60 w.params) rfl ?_
    have F2 := Fr.ground F9 hsz (u.trans u2) (fun b o q => y.stays b o (k1 b o q))
    have N2 := News.none base L h2
    have uu : s.heap.UpToSlots h2 := (Heap.UpToSlots.of_keeps kk).trans (u.trans u2)
    clear F9 N9 kk x u u2
    k_steps
    refine ⟨rfl, Xb.keeps (Fr.keep F2), y, fun h3 y3 u3 => ?_⟩
    have F3 := Fr.ground F2 (Nat.le_refl _) u3 (fun b o q => y3.stays b o (k1 b o q))
    have N3 := News.none base L h3
    clear F2 N2
    k_steps
    rename_i h9 tk9 e9 d9 t9 o9 x1 x2 x3 x4 x5 x6 x7 x8
    obtain ⟨T0, oT0, ts0, z1, _⟩ := id y3.tr
    have z2 := x4 _ _ z1
    refine Stop.out ⟨_, _, _, _, rfl, x5, rfl, x8, isExc100 _, raiseNew_in (e0 := e0) rfl (fun q => by subst q; rw [z1] at x1; cases x1) z2 rfl rfl x5 rfl (by simp) fun h5 g1 g2 => ?_⟩
    refine handler_fresh (base := base) (h₁ := s.heap) (outer := outer) (c := .ref e0) (t1 := t9) (C := 100) (d := d9) (D := placeDict _ vn) (hr := h3) (Around.frames_deeper hAf) (by exact base_frames k1 y3.frames) (fun b o q => y3.stays b o (k1 b o q)) x1 x2 x3 (fun b o hb q => g2 b o hb (x4 b o q)) g1 (g2 _ _ x3 x6) x7 ?_ fun B' h6 st6 => ?_
    · refine (uu.trans u3).trans ((Heap.UpToSlots.of_keeps x4).trans fun b o q hn => ⟨o.slots, g2 b o ?_ q⟩)
      intro z
      subst z
      rw [x5] at q
      cases q
      exact hn _ rfl
    obtain ⟨b1, b2, b3, b4⟩ := st6
    refine leave_noted rfl (by simp) b3 fun h7 y7 u7 => ?_
    exact h _ _ _ _ _ _ (b4 h7 y7 u7)
end
end
theorem endOfStepBad : True := trivial
/-! ExcJ -/
section
open PySem.Builtin PySem.Builtin.ObjectAttr
set_option maxRecDepth 100000
section
variable {prog : Program} {w : World} {A : Around} {E : Value → Shared → Prop} {s : Shared} {K : Frag} {x C : Addr} {ox : Obj} {od : Option Obj} {name : Str} {expr : Bool} {Q : Value → Shared → Prop}
/-- an attribute out of an own exception's dict -/
theorem get_exc {v : Value} {X0 : String} (SL : Slot X0 "__getattribute__" "BaseException.__getattribute__") (X : K.In s.heap) (I : InstAt s.heap x ox C od) (hga : findIn K (.ref C) "__getattribute__" = some (some (.builtin "BaseException.__getattribute__"))) (hk : findIn K (.ref C) "__getattr__" = some none)
    (hi : mroIn K C (.type "BaseException") = some true) (hf : findObj K C od name = some (.value v)) (hh : handedIn v = true) (h : Q v { s with toks := s.toks + 1 }) : wpAny (model prog w) A (getAttr (.ref x) name expr) Q E s := by
  have L0 := I.type (M := model prog w)
  have L1 := looks_find (M := model prog w) X I hf
  unfold getAttr getAttrBy
  refine wpAny_bind (wpAny_mkText (wpAny_holding (wpAny_bind (L0 _ _ _ _ (fun _ _ e => e) (wpAny_bind (looks_findIn X hga _ _ _ _ (fun _ _ e => e) ?_))))))
  dsimp only
  rw [show (onTheHeap (Value.ref C) && Value.builtin "BaseException.__getattribute__" == Value.builtin "object.__getattribute__") = false from by rw [show (Value.builtin "BaseException.__getattribute__" == Value.builtin "object.__getattribute__") = false from by decide +kernel, Bool.and_false], if_neg (by decide)]
  refine wpAny_bind (looks_hook (mc := .ref C) (r := none) X (by rw [hk]; simp) _ _ _ _ (fun _ _ e => e) (wpAny_bind (wpAny_attempt (wpAny_holding ?_))))
  unfold callGetattribute
  rw [show (expr && onTheHeap (Value.builtin "BaseException.__getattribute__")) = false from Bool.and_false _, if_neg (by decide)]
  unfold boundAndCalled
  rw [SL.bind]
  refine wpAny_bind (wpAny_pure ?_)
  show wpAny _ _ (call (.builtin "BaseException.__getattribute__") [.ref x, .str name s.toks]) _ _ _
  refine wpAny_call ?_
  refine codeAny_call_builtin SL.plain F.entry_bexc_ga ?_
  refine @check_slot (model prog w) _ _ { s with toks := s.toks + 1 } "BaseException.__getattribute__" "BaseException" "__getattribute__" (.ref x) [.str name s.toks] [] _ (by decide +kernel) (by decide +kernel) (L0.andThen (looks_mroIn X hi)) (F.args_bexc_ga (.ref x) (.str name s.toks)) ?_
  refine wpAny_bind (wpAny_pure (wpAny_bind (wpAny_pure (wpAny_bind (L0 _ _ _ _ (fun _ _ e => e) (wpAny_bind (L1 _ _ _ _ (fun _ _ e => e) ?_)))))))
  refine wpAny_pure ?_
  show wpAny _ _ (handedOut v) _ _ _
  rw [handedOut_of hh]; exact wpAny_pure h
end
end
/-! HList -/
section
open PyProof.Rows.LCg
/-! lists of data: slices, sums and comparisons -/
theorem TvL.drop {P : Addr → Array Value → Prop} {vs : List Value} {ds : List PyData} (x : TvL P vs ds) : ∀ n, TvL P (vs.drop n) (ds.drop n) := by
  induction x with
  | nil => intro n; rw [List.drop_nil, List.drop_nil]; exact .nil
  | cons h t ih => intro n; cases n with
    | zero => exact .cons h t
    | succ n => exact ih n
theorem TvL.take {P : Addr → Array Value → Prop} {vs : List Value} {ds : List PyData} (x : TvL P vs ds) : ∀ n, TvL P (vs.take n) (ds.take n) := by
  induction x with
  | nil => intro n; rw [List.take_nil, List.take_nil]; exact .nil
  | cons h t ih => intro n; cases n with
    | zero => exact .nil
    | succ n => exact .cons h (ih n)
theorem TvL.reads {h : Heap} {vs : List Value} {ds : List PyData} (x : TvL (IsTup h) vs ds) : ReadsAll h vs ds [] := by
  induction x with
  | nil => exact .nil
  | cons a _ ih => exact .cons (as := []) (bs := []) a.reads ih
theorem clipn {x : Int} (h : 0 ≤ x) (n : Nat) : max 0 (min x (n : Int)) = ((min x.toNat n : Nat) : Int) := by
  have hx := Int.toNat_of_nonneg h
  rcases Nat.le_total x.toNat n with q | q
  · have q' : x ≤ (n : Int) := hx ▸ Int.ofNat_le.mpr q
    rw [Nat.min_eq_left q, Int.min_eq_left q', Int.max_eq_right h, hx]
  · have q' : (n : Int) ≤ x := hx ▸ Int.ofNat_le.mpr q
    rw [Nat.min_eq_right q, Int.min_eq_right q', Int.max_eq_right (Int.natCast_nonneg n)]
theorem pick_upto (vs : List Value) {y : Int} (h : 0 ≤ y) : (slicePick vs.toArray none (some y) none).toList = vs.take y.toNat := by
  have e : sliceBounds none (some y) none vs.toArray.size = (((0 : Nat) : Int), ((min y.toNat vs.toArray.size : Nat) : Int), 1) := by
    simp only [sliceBounds, Option.getD_none, show (1 : Int) > 0 by decide, if_true, if_neg (Int.not_lt.mpr h)]
    congr 1
    congr 1
    exact clipn h _
  rw [kmk_pick_nat _ e]
  show (vs.drop 0).take (min y.toNat vs.toArray.size - 0) = _
  rw [List.drop_zero, Nat.sub_zero, List.size_toArray, kmk_take_min]
theorem pick_from (vs : List Value) {x : Int} (h : 0 ≤ x) : (slicePick vs.toArray (some x) none none).toList = vs.drop x.toNat := by
  have e : sliceBounds (some x) none none vs.toArray.size = (((min x.toNat vs.toArray.size : Nat) : Int), ((vs.toArray.size : Nat) : Int), 1) := by
    simp only [sliceBounds, Option.getD_none, show (1 : Int) > 0 by decide, if_true, if_neg (Int.not_lt.mpr h)]
    congr 1
    exact clipn h _
  rw [kmk_pick_nat _ e]
  show (vs.drop (min x.toNat vs.toArray.size)).take (vs.toArray.size - min x.toNat vs.toArray.size) = _
  rw [List.size_toArray, kmk_drop_min, List.take_of_length_le (by rw [List.length_drop]; omega)]
theorem pick_run (vs : List Value) {x : Int} {k : Nat} (h : 0 ≤ x) : (slicePick vs.toArray (some x) (some (x + (k : Int))) none).toList = (vs.drop x.toNat).take k := by
  have hk : 0 ≤ x + (k : Int) := Int.add_nonneg h (Int.natCast_nonneg k)
  have e : sliceBounds (some x) (some (x + (k : Int))) none vs.toArray.size = (((min x.toNat vs.toArray.size : Nat) : Int), ((min (x.toNat + k) vs.toArray.size : Nat) : Int), 1) := by
    simp only [sliceBounds, Option.getD_none, show (1 : Int) > 0 by decide, if_true, if_neg (Int.not_lt.mpr h), if_neg (Int.not_lt.mpr hk)]
    congr 1
    · exact clipn h _
    · congr 1
      rw [← Int.toNat_add_nat h]
      exact clipn hk _
  rw [kmk_pick_nat _ e]
  show (vs.drop (min x.toNat vs.toArray.size)).take (min (x.toNat + k) vs.toArray.size - min x.toNat vs.toArray.size) = _
  rw [List.size_toArray, kmk_drop_min]
  by_cases hx : x.toNat + k ≤ vs.length
  · rw [Nat.min_eq_left hx, Nat.min_eq_left (by omega)]
    congr 1
    omega
  · rw [Nat.min_eq_right (by omega), List.take_of_length_le (by rw [List.length_drop]; omega), List.take_of_length_le (by rw [List.length_drop]; omega)]
def itemPy (x : Str × Nat) : PyData := .tuple [.str x.1, .int (x.2 : Nat)]
def headL : Tm → List (Str × Nat)
  | .leaf c => [(c, 0)]
  | .un t => (Str.ofString "f", 1) :: headL t
  | .bin t u => (Str.ofString "g", 2) :: (headL t ++ headL u)
theorem headsOf_map : ∀ t : Tm, headsOf t = (headL t).map itemPy
  | .leaf c => rfl
  | .un t => by simp [headsOf, headL, headsOf_map t, itemPy]
  | .bin t u => by simp [headsOf, headL, headsOf_map t, headsOf_map u, itemPy]
theorem headL_length : ∀ t : Tm, (headL t).length = t.size := fun t => by rw [← headsOf_length t, headsOf_map, List.length_map]
theorem eqv_item (x y : Str × Nat) : PyData.eqv (itemPy x) (itemPy y) = decide (x = y) := by
  obtain ⟨a, n⟩ := x
  obtain ⟨b, k⟩ := y
  rw [Bool.eq_iff_iff]
  simp [itemPy, PyData.eqv, PyData.eqvAll]
  intro _
  omega
theorem eqv_heads : ∀ a b : List (Str × Nat), PyData.eqvAll (a.map itemPy) (b.map itemPy) = decide (a = b)
  | [], [] => by simp [PyData.eqvAll]
  | [], _ :: _ => by simp [PyData.eqvAll]
  | _ :: _, [] => by simp [PyData.eqvAll]
  | x :: a, y :: b => by
    rw [List.map_cons, List.map_cons, PyData.eqvAll, eqv_item, eqv_heads a b]
    simp [Bool.decide_and]
def GoodH (l : List (Str × Nat)) : Prop := ∀ x ∈ l, PyData.canLay0 (.str x.1) = true
theorem headL_good : ∀ t : Tm, t.Plain → GoodH (headL t)
  | .leaf c, h => by
    intro x hx
    simp [headL] at hx
    subst hx
    rcases h with rfl | rfl <;> decide +kernel
  | .un t, h => by
    intro x hx
    simp [headL] at hx
    rcases hx with rfl | hx
    · decide +kernel
    · exact headL_good t h x hx
  | .bin t u, h => by
    intro x hx
    simp [headL] at hx
    rcases hx with rfl | hx | hx
    · decide +kernel
    · exact headL_good t h.1 x hx
    · exact headL_good u h.2 x hx
theorem lay_heads : ∀ l : List (Str × Nat), GoodH l → PyData.canLayAll0 (l.map itemPy) = true ∧ PyData.depthAll (l.map itemPy) ≤ 1
  | [], _ => by simp [PyData.canLayAll0, PyData.depthAll]
  | x :: r, h => by
    obtain ⟨a, b⟩ := lay_heads r fun y hy => h y (.tail _ hy)
    have c := h x (.head _)
    simp [PyData.canLayAll0, PyData.depthAll, itemPy, PyData.canLay0, PyData.depth] at c a b ⊢
    refine ⟨⟨c, a⟩, ?_⟩
    omega
theorem shaped_heads {l : List (Str × Nat)} (h : GoodH l) : PySem.SeqAt.shaped (.list (l.map itemPy)) = true := by
  obtain ⟨a, b⟩ := lay_heads l h
  unfold PySem.SeqAt.shaped
  simp [PyData.canLay0, a, PyData.depth]
  omega
theorem isListOf {h : Heap} {l : Addr} {vs : List Value} {n : Nat} (e : h.get? l = some (PySem.W.listOf vs.toArray n)) : h.IsList l vs.toArray := ⟨_, e, rfl, n, rfl⟩
section
variable {prog : Program} {w : World} {A : Around} {s : Shared} {h₀ : Heap} {L : Addr} {m : Str → Option Value} {news : List (Addr × Obj)} {E : Value → Shared → Prop} {Q : Value → Shared → Prop}
theorem isList_reads {l : Addr} {vs : List Value} {ds : List PyData} (hl : s.heap.IsList l vs.toArray) (x : TvL (IsTup s.heap) vs ds) : Reads s.heap (.ref l) (.list ds) [l] := by
  obtain ⟨o, ho, hc, n, hd⟩ := hl
  exact .list ho hc hd (by simpa using x.reads)
theorem eqHeads_use {a b : Addr} {vs ws : List Value} {x y : List (Str × Nat)} (ha : s.heap.IsList a vs.toArray) (hb : s.heap.IsList b ws.toArray) (hv : TvL (IsTup s.heap) vs (x.map itemPy)) (hw : TvL (IsTup s.heap) ws (y.map itemPy)) (h1 : GoodH x) (h2 : GoodH y) (hu : A.units + 64 < cLine)
    (h : Q (.bool (decide (x = y))) s) : wpAny (model prog w) A (compareOp .Eq (.ref a) (.ref b)) Q E s :=
  eq_dataH (isList_reads ha hv) (isList_reads hb hw) (shaped_heads h1) (shaped_heads h2) hu (by simp only [PyData.eqv]; rw [eqv_heads]; exact h)
theorem neHeads_use {a b : Addr} {vs ws : List Value} {x y : List (Str × Nat)} (ha : s.heap.IsList a vs.toArray) (hb : s.heap.IsList b ws.toArray) (hv : TvL (IsTup s.heap) vs (x.map itemPy)) (hw : TvL (IsTup s.heap) ws (y.map itemPy)) (h1 : GoodH x) (h2 : GoodH y) (hu : A.units + 64 < cLine)
    (h : Q (.bool (!decide (x = y))) s) : wpAny (model prog w) A (compareOp .NotEq (.ref a) (.ref b)) Q E s :=
  ne_dataH (isList_reads ha hv) (isList_reads hb hw) (shaped_heads h1) (shaped_heads h2) hu (by simp only [PyData.eqv]; rw [eqv_heads]; exact h)
theorem addL_use {a b : Addr} {vs ws : List Value} (F : Fr h₀ L s.heap m) (N : News h₀ L s.heap news) (ha : s.heap.IsList a vs.toArray) (hb : s.heap.IsList b ws.toArray) (hz : vs.length + ws.length ≤ 1000)
    (h : ∀ D h', Fr h₀ L h' m → News h₀ L h' ((D, PySem.W.listOf (vs ++ ws).toArray 0) :: news) → (∀ p ∈ news, p.1 < D) → Q (.ref D) { s with heap := h' }) : wpAny (model prog w) A (binaryOp .Add (.ref a) (.ref b)) Q E s :=
  add_lists F N ha hb (fun h' F' N' => h _ h' F' N' fun p hp => Heap.lt_size (N p hp).1) (Nat.le_trans hz (by decide))
end
end
/-! LawT -/
section
open PyProof.Rows.LCg
theorem fn_elim {K : Frag} {G : Prop} {name qual : Str} {params : Arguments} {body : List Stmt} {scope : Scope} {dV kV doc pm cdv ct oc : Value} {an od : Option Addr} {osl : Array (Option Value)} {name' qual' : Str} {params' : Arguments} {body' : List Stmt} {scope' : Scope} {dV' kV' doc' pm' cdv' ct' oc' : Value} {an' od' : Option Addr} {osl' : Array (Option Value)} {fa : Addr}
    (hb : K.lookup fa = some ⟨oc, od, .func (fnOf name qual params body scope dV kV doc pm an cdv ct), osl⟩) (e : K.lookup fa = some ⟨oc', od', .func (fnOf name' qual' params' body' scope' dV' kV' doc' pm' an' cdv' ct'), osl'⟩)
    (k : qual = qual' → body = body' → scope = scope' → G) : G := by
  have e2 := hb.symm.trans e
  simp only [Option.some.injEq, Obj.mk.injEq, Data.func.injEq, fnOf, FuncData.mk.injEq] at e2
  have a := e2.2.2.1
  exact k (by simp_all) (by simp_all) (by simp_all)
/-- a list of heads -/
structure HeadsV (h : Heap) (l : Addr) (vs : List Value) (n : Nat) (t : Tm) : Prop where
  at_ : h.get? l = some (PySem.W.listOf vs.toArray n)
  items : TvL (IsTup h) vs ((headL t).map itemPy)
  len : vs.length = t.size
/-- what the sides are of every step that has this path, this kind and these places -/
def SidesG (prog : Program) (w : World) (p : Program) (loose : List Str) (mean : ExcName → Option Value) (mg mb : Str → Option Value) (h : Heap) (st a : Addr) (vn : Value) (vs : List Value) (ns : List Int) (kd x : Str) (pl : Addr) (tL tR : Tm) : Prop :=
  ∀ (h' : Heap) (sp : Addr) (k1 k2 : Tok) (b : Bool), Keep h h' → StepV h' sp a vs ns kd k1 x k2 pl b → SidesOn prog w p loose mean mg mb h' st sp vn (bif b then tR else tL) (bif b then tL else tR)
/-- a term that is small enough, and drawn -/
structure Small (t : Tm) : Prop where
  plain : t.Plain
  low : t.height ≤ 60
  few : t.size ≤ 100
/-- _law_is_right where the part is there -/
def LawTC (prog : Program) (w : World) (p : Program) (loose : List Str) (mean : ExcName → Option Value) (mg mb : Str → Option Value) (b : Bool) : Prop :=
  ∀ (A : Around) (s : Shared) (st J sp a pl hds pr pL pR : Addr) (v vn : Value) (vs : List Value) (ns : List Int) (kd x : Str) (k1 k2 : Tok) (i : Int) (ti : Tok) (t tL tR : Tm) (hvs lvs rvs : List Value) (nh nl nr : Nat) (E : Value → Shared → Prop) (Q : Value → Shared → Prop),
    (Mine.hd.heap_1 w.params).In s.heap → Top p loose mean mg mb s.heap → Rm A 80 → (∃ a t n dS, InstAt s.heap st (instObj 283 dS) 283 (some (dictOf [⟨a, .str (Str.ofString "judge") t, .ref J⟩] n))) → StepV s.heap sp a vs ns kd k1 x k2 pl b → SidesG prog w p loose mean mg mb s.heap st a vn vs ns kd x pl tL tR → ns.length ≤ 10 →
    Tv (IsTup s.heap) v t.py → HeadsV s.heap hds hvs nh t → IsTup s.heap pr #[.ref pL, .ref pR] → HeadsV s.heap pL lvs nl tL → HeadsV s.heap pR rvs nr tR → Small t → Small tL → Small tR → 0 ≤ i → sub t ns = some (bif b then tR else tL) →
    ((headL t).drop i.toNat).take (bif b then tR else tL).size = headL (bif b then tR else tL) → Small (rep t ns (bif b then tL else tR)) →
    headL (rep t ns (bif b then tL else tR)) = (headL t).take i.toNat ++ headL (bif b then tL else tR) ++ (headL t).drop (i.toNat + (bif b then tR else tL).size) →
    sub (rep t ns (bif b then tL else tR)) ns = some (bif b then tL else tR) → rep (rep t ns (bif b then tL else tR)) ns (bif b then tR else tL) = t →
    (∀ h' d tk', Keep s.heap h' → Q (.bool true) { s with heap := h', drawn := d, toks := tk' }) →
    wpAny (model prog w) A (call (.ref 346) [.ref st, v, .ref hds, .int i ti, .ref sp, .ref pr, vn]) Q E s

theorem TvL.at0 {h₀ h : Heap} {L : Addr} {m : Str → Option Value} {v : List Value} {d : List PyData} (F : Fr h₀ L h m) (x : TvL (IsTup h₀) v d) : TvL (IsTup h) v d := x.mono fun _ _ y => y.keeps F.keep
theorem TvL.run {P : Addr → Array Value → Prop} {vs : List Value} {l : List (Str × Nat)} (x : TvL P vs (l.map itemPy)) (a k : Nat) : TvL P ((vs.drop a).take k) (((l.drop a).take k).map itemPy) := by
  rw [List.map_take, List.map_drop]; exact (x.drop a).take k
theorem TvL.upto {P : Addr → Array Value → Prop} {vs : List Value} {l : List (Str × Nat)} (x : TvL P vs (l.map itemPy)) (k : Nat) : TvL P (vs.take k) ((l.take k).map itemPy) := by
  rw [List.map_take]; exact x.take k
theorem TvL.from {P : Addr → Array Value → Prop} {vs : List Value} {l : List (Str × Nat)} (x : TvL P vs (l.map itemPy)) (a : Nat) : TvL P (vs.drop a) ((l.drop a).map itemPy) := by
  rw [List.map_drop]; exact x.drop a
theorem TvL.plus {P : Addr → Array Value → Prop} {vs ws : List Value} {l k : List (Str × Nat)} (x : TvL P vs (l.map itemPy)) (y : TvL P ws (k.map itemPy)) : TvL P (vs ++ ws) ((l ++ k).map itemPy) := by
  rw [List.map_append]; exact x.append y
theorem slice_four {a b c d e : Value} : tslice #[a, b, c, d, e] none (some 4) none = [a, b, c, d] := rfl
theorem slice_rev {x y : Value} : tslice #[x, y] none none (some (-1)) = [y, x] := by
  have e : tsel (#[x, y] : Array Value).size none none (some (-1)) = (1, -1, 2) := by
    show tsel 2 none none (some (-1)) = _
    decide +kernel
  unfold tslice
  rw [e]
  rfl
theorem whole_four {a b c d e : Value} : twhole (#[a, b, c, d, e] : Array Value).size none (some 4) none = false := by
  show twhole 5 none (some 4) none = _
  decide +kernel
theorem whole_rev {x y : Value} : twhole (#[x, y] : Array Value).size none none (some (-1)) = false := by
  show twhole 2 none none (some (-1)) = _
  decide +kernel
theorem step_four : ((none : Option Int).getD 1 == 0) = false := by decide +kernel
theorem step_rev : ((some (-1) : Option Int).getD 1 == 0) = false := by decide +kernel
theorem le_line {l : List Value} (h : l.length ≤ 1000) : l.toArray.size ≤ sizeLine := by rw [List.size_toArray]; exact Nat.le_trans h (by decide)
section
variable {prog : Program} {w : World} {A : Around} {s : Shared} {h₀ : Heap} {L : Addr} {m : Str → Option Value} {news : List (Addr × Obj)} {p : Program} {loose : List Str} {mean : ExcName → Option Value} {mg mb : Str → Option Value} {E : Value → Shared → Prop} {Q : Value → Shared → Prop}
theorem eqHeads_true {a b : Addr} {vs ws : List Value} {x y : List (Str × Nat)} (ha : s.heap.IsList a vs.toArray) (hb : s.heap.IsList b ws.toArray) (hv : TvL (IsTup s.heap) vs (x.map itemPy)) (hw : TvL (IsTup s.heap) ws (y.map itemPy)) (hxy : x = y) (hg : GoodH y) (hu : A.units + 64 < cLine)
    (h : Q (.bool true) s) : wpAny (model prog w) A (compareOp .Eq (.ref a) (.ref b)) Q E s := by
  subst hxy
  exact eqHeads_use ha hb hv hw hg hg hu (by rw [decide_eq_true rfl]; exact h)
theorem neHeads_false {a b : Addr} {vs ws : List Value} {x y : List (Str × Nat)} (ha : s.heap.IsList a vs.toArray) (hb : s.heap.IsList b ws.toArray) (hv : TvL (IsTup s.heap) vs (x.map itemPy)) (hw : TvL (IsTup s.heap) ws (y.map itemPy)) (hxy : x = y) (hg : GoodH x) (hu : A.units + 64 < cLine)
    (h : Q (.bool false) s) : wpAny (model prog w) A (compareOp .NotEq (.ref a) (.ref b)) Q E s := by
  subst hxy
  exact neHeads_use ha hb hv hw hg hg hu (by rw [decide_eq_true rfl]; exact h)
theorem eqTm_true {v u : Value} {t t' : Tm} (hv : Tv (IsTup s.heap) v t.py) (hu : Tv (IsTup s.heap) u t'.py) (e : t = t') (h1 : t'.Plain) (h3 : t'.height ≤ 60) (hk : A.units + 64 < cLine) (h : Q (.bool true) s) : wpAny (model prog w) A (compareOp .Eq v u) Q E s := by
  subst e
  exact eq_dataH hv.reads hu.reads (shaped_py h1 h3) (shaped_py h1 h3) hk (by rw [eqv_py, Tm.same_self]; exact h)
theorem len_old {l : Addr} {vs : List Value} (hl : s.heap.IsList l vs.toArray) (hz : vs.length ≤ 1000) (h : ∀ t, Q (.int ((vs.length : Nat) : Int) t) { s with toks := s.toks + 1 + 1 }) : wpAny (model prog w) A (call (.builtin "len") [.ref l]) Q E s := by
  refine call_len_list hl (by rw [List.size_toArray]; omega) ?_
  rw [List.size_toArray]
  exact h _
theorem headsT_use {t : Tm} {v : Value} (F : Fr h₀ L s.heap m) (X : (hd.heap_1 w.params).In h₀) (T : Top p loose mean mg mb h₀) (N : News h₀ L s.heap news) (R : Rm A (t.height + 1)) (hsz : t.size ≤ 100) (hv : Tv (IsTup s.heap) v t.py)
    (h : ∀ l h' tk' vs n tl, Fr h₀ L h' m → News h₀ L h' ((l, PySem.W.listOf vs.toArray n) :: (news ++ tl)) → (∀ p ∈ news, p.1 ≠ l) → AllTup tl → TvL (Tp h₀ tl) vs ((headL t).map itemPy) → Q (.ref l) { s with heap := h', toks := tk' }) :
    wpAny (model prog w) A (call (.ref 334) [v]) Q E s :=
  heads_use (heads_all t) F X T N R hsz hv fun l h' tk' vs n tl F' N' o hA _ hd => h l h' tk' vs n tl F' N' o hA (headsOf_map t ▸ hd)
theorem stepOk_use {st J sp a pl : Addr} {v vn : Value} {vs : List Value} {ns : List Int} {kd x : Str} {k1 k2 : Tok} {b : Bool} {t tL tR : Tm} (C : SidesG prog w p loose mean mg mb h₀ st a vn vs ns kd x pl tL tR) (F : Fr h₀ L s.heap m) (X : (hd.heap_1 w.params).In h₀) (T : Top p loose mean mg mb h₀) (N : News h₀ L s.heap news) (R : Rm A 14)
    (hst : ∃ a t n dS, InstAt h₀ st (instObj 283 dS) 283 (some (dictOf [⟨a, .str (Str.ofString "judge") t, .ref J⟩] n))) (hlen : ns.length ≤ 10) (hp : PathV (IsTup h₀) (.ref a) ns) (ha : IsTup h₀ a vs.toArray) (hi : IntV vs ns) (hz : vs.length ≤ 1000) (V : IsTup s.heap sp #[.ref a, .str kd k1, .str x k2, .ref pl, .bool b]) (hs : sub t ns = some (bif b then tR else tL)) (hv : Tv (IsTup s.heap) v t.py) (h1 : (bif b then tR else tL).Plain) (h2 : (bif b then tR else tL).height ≤ 60)
    (h : ∀ v' h' d tk' tl, Fr h₀ L h' m → News h₀ L h' (news ++ tl) → AllTup tl → Tv (Tp h₀ tl) (.ref v') (rep t ns (bif b then tL else tR)).py → Q (.ref v') { s with heap := h', drawn := d, toks := tk' }) :
    wpAny (model prog w) A (call (.ref 266) [.ref st, v, .ref sp, vn]) Q E s := by
  have V' : StepV s.heap sp a vs ns kd k1 x k2 pl b := ⟨V, ha.keeps F.keep, hi, hz⟩
  obtain ⟨b1, b2, b3, b4, b5⟩ := hst
  refine stepOk _ _ _ _ _ _ _ _ _ _ _ _ _ _ _ _ _ _ _ _ _ (X.keeps F.keep) (T.keeps F.keep) R ⟨b1, b2, b3, b4, instLift b5 F.keep⟩ V' (C _ _ _ _ b F.keep V') hlen hs hv h1 h2 fun v' h' d tk' k hd => ?_
  have F' := Fr.byKeep F k
  obtain ⟨z, rfl⟩ := Tv.isRef hd
  exact h z h' d tk' (tups h₀ h') F' (News.app (News.byKeep N k) (news_tups F')) (allTup_tups _ _) (hd.mono fun a vs y => tp_tups F' y)
end
theorem w129 : True := by
  k_with "M call ref" => ((fail_if_success (have := endOfLawT)); case' FRESH => ((k_here; (with_reducible show wpAny _ _ (call (Value.ref 266) _) _ _ _); k_dflt (refine' stepOk_use (b := _) ?C ?F ?X ?T ?N ?R ?st ?hl ?hp ?ha ?hi ?hz ?V ?hs ?hv ?h1 ?h2 ?_; (case C => assumption); (case F => k_asm); (case X => k_asm); (case T => k_asm); (case N => k_asm); (case R => exact Rm.le (Rm.deeper (by assumption)) (by omega)); (case st => assumption); (case hl => assumption); (case hp => assumption); (case ha => assumption); (case hi => assumption); (case hz => assumption); (case V => first | exact Fr.tup (by k_asm) (by assumption) | exact News.isTup (by k_asm) (by k_mem) | exact Fr.tupP (by assumption) (by k_asm) (by k_asm) (by k_all)); (case hv => first | exact Tv.at0 (by k_asm) (by assumption) | exact Tv.at (by assumption) (by k_asm) (by k_asm) (by k_all)); (case hs => assumption); (case h1 => assumption); (case h2 => assumption); k_whole); intro v' h' d' tk' tl' F' N' hA' hd'; (try simp only [cond_true, cond_false] at hd'); (try simp only [List.cons_append, List.nil_append] at N'))))
  trivial
theorem w130 : True := by
  k_with "M call ref" => ((fail_if_success (have := endOfLawT)); case' FRESH => ((k_here; (with_reducible show wpAny _ _ (call (Value.ref 334) _) _ _ _); k_dflt (refine' headsT_use ?F ?X ?T ?N ?R ?hz ?hv ?_; (case F => k_asm); (case X => k_asm); (case T => k_asm); (case N => k_asm); (case hv => first | exact Tv.at (by assumption) (by k_asm) (by k_asm) (by k_all) | exact Tv.at0 (by k_asm) (by assumption)); (case R => exact Rm.le (Rm.deeper (by assumption)) (by omega)); (case hz => assumption); k_whole); intro l' h' tk' vs' n' tl' F' N' l1 hA' hd'; (try simp only [List.cons_append, List.nil_append] at N'))))
  trivial
theorem w131 : True := by
  k_with "ht_list" => (case' FRESH => (first | exact isListOf (Fr.keep (by k_asm) _ _ (by assumption)) | exact News.isList (by k_asm) (by k_mem)))
  trivial
theorem w132 : True := by
  k_with "ht_tvl0" => (case' FRESH => (first | exact TvL.at0 (by k_asm) (by assumption) | exact TvL.at (by assumption) (by k_asm) (by k_asm) (by k_all)))
  trivial
theorem w133 : True := by
  k_with "ht_tvl1" => (case' FRESH => (first | exact TvL.run (TvL.at0 (by k_asm) (by assumption)) _ _ | exact TvL.upto (TvL.at0 (by k_asm) (by assumption)) _ | exact TvL.from (TvL.at0 (by k_asm) (by assumption)) _ | (k_extra "ht_tvl0")))
  trivial
theorem w134 : True := by
  k_with "M subscriptTail Name Slice ref ref" => ((fail_if_success (have := endOfLawT)); case' FRESH => ((k_here; (with_reducible show wpAny _ _ (subscriptTail _ (PySem.Expr.Slice _ _ _ _) (Value.ref _) (Value.ref _)) _ _ _); k_dflt (refine' kmk_slice_lit ?F ?N ?l ?p ?q ?e ?_ ?s ?g ?z; (case F => k_asm); (case N => k_asm); (case l => (k_extra "ht_list")); (case p => kmk_part); (case q => kmk_part); (case e => first | exact pick_run _ (by assumption) | exact pick_upto _ (by assumption) | exact pick_from _ (by omega)); (case z => exact le_line (by omega)); (case s => with_unfolding_all rfl); (case g => kmk_pure); k_whole); intro D' h' F' N' l1; (try k_lt l1))))
  trivial
theorem w135 : True := by
  k_with "M subscriptTail Name Slice ref ref" => ((fail_if_success (have := endOfLawT)); case' FRESH => ((k_here; (with_reducible show wpAny _ _ (subscriptTail _ (PySem.Expr.Slice _ _ _ _) (Value.ref _) (Value.ref _)) _ _ _); k_dflt (refine' tup_slice ?F ?N ?t ?p ?q ?k ?z ?w ?e ?y ?_ ?s ?g; (case F => k_asm); (case N => k_asm); (case t => exact Fr.tup (by k_asm) (by assumption)); (case p => kmk_part); (case q => kmk_part); (case k => first | kmk_part | exact IsPart.int _ _); (case z => first | exact step_four | exact step_rev); (case w => first | exact whole_four | exact whole_rev); (case e => first | exact slice_four | exact slice_rev); (case y => exact Nat.le_of_ble_eq_true rfl); (case s => with_unfolding_all rfl); (case g => kmk_pure); k_whole); intro D' h' F' N' l1; (try k_lt l1))))
  trivial
theorem w136 : True := by
  k_with "M call builtin:len" => ((fail_if_success (have := endOfLawT)); case' FRESH => ((k_here; (with_reducible show wpAny _ _ (call (Value.builtin _) [Value.ref _]) _ _ _); k_dflt (refine' len_old ?l ?z ?_; (case l => (k_extra "ht_list")); (case z => omega)); intro t')))
  trivial
theorem w137 : True := by
  k_with "M compareOp Eq ref ref" => ((fail_if_success (have := endOfLawT)); case' FRESH => ((k_here; k_dflt (first | (refine' eqHeads_true ?a ?b ?v ?w ?e ?g ?u ?_; (case a => (k_extra "ht_list")); (case b => (k_extra "ht_list")); (case v => (k_extra "ht_tvl1")); (case w => (k_extra "ht_tvl0")); (case e => assumption); (case g => exact headL_good _ (by assumption)); (case u => exact Rm.units (by assumption)); k_whole) | (refine' eqTm_true ?a ?b ?e ?p ?q ?u ?_; (case a => exact Tv.at (by assumption) (by k_asm) (by k_asm) (by k_all)); (case b => exact Tv.at0 (by k_asm) (by assumption)); (case e => assumption); (case p => assumption); (case q => assumption); (case u => exact Rm.units (by assumption)); k_whole)))))
  trivial
theorem w138 : True := by
  k_with "M compareOp NotEq ref ref" => ((fail_if_success (have := endOfLawT)); case' FRESH => ((k_here; k_dflt (refine' neHeads_false ?a ?b ?v ?w ?e ?g ?u ?_; (case a => (k_extra "ht_list")); (case b => (k_extra "ht_list")); (case v => (k_extra "ht_tvl0")); (case w => exact TvL.plus (TvL.plus (TvL.upto (TvL.at0 (by k_asm) (by assumption)) _) (TvL.at0 (by k_asm) (by assumption))) (TvL.from (TvL.at0 (by k_asm) (by assumption)) _)); (case e => assumption); (case g => exact headL_good _ (by assumption)); (case u => exact Rm.units (by assumption)); k_whole))))
  trivial
theorem w139 : True := by
  k_with "M binaryOp Add ref ref" => ((fail_if_success (have := endOfLawT)); case' FRESH => ((k_here; (with_reducible show wpAny _ _ (binaryOp _ (Value.ref _) (Value.ref _)) _ _ _); k_dflt (refine' addL_use ?F ?N ?a ?b ?z ?_; (case F => k_asm); (case N => k_asm); (case a => (k_extra "ht_list")); (case b => (k_extra "ht_list")); (case z => (simp only [List.length_append, List.length_take, List.length_drop]; omega)); k_whole); intro D' h' F' N' l1; (try k_lt l1))))
  trivial
theorem w140 : True := by
  k_with "M eval Name" => ((fail_if_success (have := endOfLawT)); case' FRESH => ((k_here; k_dflt (refine' nameX_L ?F ?v ?_ ?a ?b; (case F => k_asm); (case a => rfl); (case b => rfl); (case v => assumption); k_whole))))
  trivial
section
variable {prog : Program} {w : World} {p : Program} {loose : List Str} {mean : ExcName → Option Value} {mg mb : Str → Option Value}
variable {A : Around} {s : Shared} {h₀ : Heap} {L : Addr} {m : Str → Option Value} {E : Value → Shared → Prop}
variable {name qual : Str} {params : Arguments} {body : List Stmt} {scope : Scope} {dV kV doc pm cdv ct oc : Value} {an od : Option Addr} {osl : Array (Option Value)}
/-- the law's parts where they stand, whichever way the pair goes -/
structure TailT (prog : Program) (w : World) (p : Program) (loose : List Str) (mean : ExcName → Option Value) (mg mb : Str → Option Value) (b : Bool) (h : Heap) (st J sp a pl hds pA pB va : Addr) (vn : Value) (vs : List Value) (ns : List Int) (kd x : Str) (k1 k2 : Tok) (i : Int) (t tL tR : Tm) (hvs avs bvs : List Value) (nh na nb : Nat) : Prop where
  hst : ∃ a t n dS, InstAt h st (instObj 283 dS) 283 (some (dictOf [⟨a, .str (Str.ofString "judge") t, .ref J⟩] n))
  V : StepV h sp a vs ns kd k1 x k2 pl b
  C : SidesG prog w p loose mean mg mb h st a vn vs ns kd x pl tL tR
  len : ns.length ≤ 10
  v : Tv (IsTup h) (.ref va) t.py
  H : HeadsV h hds hvs nh t
  HA : HeadsV h pA avs na (bif b then tR else tL)
  HB : HeadsV h pB bvs nb (bif b then tL else tR)
  S : Small t
  SA : Small (bif b then tR else tL)
  SB : Small (bif b then tL else tR)
  i0 : 0 ≤ i
  sub : sub t ns = some (bif b then tR else tL)
  sl : ((headL t).drop i.toNat).take (bif b then tR else tL).size = headL (bif b then tR else tL)
  Sp : Small (rep t ns (bif b then tL else tR))
  rep : headL (rep t ns (bif b then tL else tR)) = (headL t).take i.toNat ++ headL (bif b then tL else tR) ++ (headL t).drop (i.toNat + (bif b then tR else tL).size)
  sub2 : Mine.sub (Mine.rep t ns (bif b then tL else tR)) ns = some (bif b then tL else tR)
  back : Mine.rep (Mine.rep t ns (bif b then tL else tR)) ns (bif b then tR else tL) = t
theorem bif_not {α : Type} {b : Bool} {x y : α} : (bif b then x else y) = bif !b then y else x := by cases b <;> rfl
set_option maxRecDepth 100000 in
set_option maxHeartbeats 1000000 in
theorem lawTail (hb : (hd.heap_1 w.params).lookup 346 = some ⟨oc, od, .func (fnOf name qual params body scope dV kV doc pm an cdv ct), osl⟩)
    {b : Bool} {st J sp a pl hds pA pB va : Addr} {vn : Value} {vs : List Value} {ns : List Int} {kd x : Str} {k1 k2 : Tok} {i : Int} {ti : Tok} {t tL tR : Tm} {hvs avs bvs : List Value} {nh na nb : Nat} {Q : Flow → Shared → Prop}
    (Y : TailT prog w p loose mean mg mb b h₀ st J sp a pl hds pA pB va vn vs ns kd x k1 k2 i t tL tR hvs avs bvs nh na nb)
    (F : Fr h₀ L s.heap m) (X : (hd.heap_1 w.params).In h₀) (T : Top p loose mean mg mb h₀) (N : News h₀ L s.heap []) (Rr : Rm A 80)
    (m1 : m (Str.ofString "left") = some (.ref pA)) (m2 : m (Str.ofString "right") = some (.ref pB)) (m3 : m (Str.ofString "steps") = some (.ref st)) (m4 : m (Str.ofString "term") = some (.ref va)) (m5 : m (Str.ofString "heads") = some (.ref hds)) (m6 : m (Str.ofString "spot") = some (.int i ti)) (m7 : m (Str.ofString "step") = some (.ref sp)) (m8 : m (Str.ofString "number") = some vn)
    (h : ∀ h' d tk', Keep h₀ h' → Q (.ret (.bool true)) { s with heap := h', drawn := d, toks := tk' }) :
    wpAny (model prog w) (A.deeper (envOf qual scope L 346 cdv)) (execs (body.drop 1) (envOf qual scope L 346 cdv)) Q E s := by
  obtain ⟨hA, dA, fA, gA, uA⟩ := A
  obtain rfl : hA = none := Rr.hh
  have hst := Y.hst
  have C := Y.C
  have hlen := Y.len
  have hv := Y.v
  have ht := Y.V.tup
  have hp := Y.V.path
  have hi := Y.V.nums
  have hz := Y.V.len
  have hi0 := Y.i0
  have hsub := Y.sub
  have hsub2 : sub (rep t ns (bif b then tL else tR)) ns = some (bif !b then tR else tL) := Y.sub2.trans (congrArg some bif_not)
  have hback : rep (rep t ns (bif b then tL else tR)) ns (bif !b then tL else tR) = t := (congrArg (rep _ ns) bif_not).symm.trans Y.back
  have hpv : PathV (IsTup h₀) (.ref a) ns := PathV.of hp hi
  have gh1 := Y.H.at_
  have gh2 := Y.H.items
  have gh3 := Y.H.len
  have gl1 := Y.HA.at_
  have gl2 := Y.HA.items
  have gl3 := Y.HA.len
  have gr1 := Y.HB.at_
  have gr2 := Y.HB.items
  have gr3 := Y.HB.len
  have st1 := Y.S.plain
  have st2 := Y.S.low
  have st3 := Y.S.few
  have sl1 := Y.SA.plain
  have sl2 := Y.SA.low
  have sl3 := Y.SA.few
  have sr1 := Y.SB.plain
  have sr2 := Y.SB.low
  have sr3 := Y.SB.few
  have sr4 : (bif !b then tR else tL).Plain := bif_not ▸ sr1
  have sr5 : (bif !b then tR else tL).height ≤ 60 := bif_not ▸ sr2
  have sp1 := Y.Sp.plain
  have sp2 := Y.Sp.low
  have sp3 := Y.Sp.few
  have hsl := Y.sl
  rw [← gl3] at hsl
  have hrep' : headL (rep t ns (bif b then tL else tR)) = ((headL t).take i.toNat ++ headL (bif b then tL else tR)) ++ (headL t).drop (i + (avs.length : Int)).toNat := by
    rw [Int.toNat_add_nat hi0, Y.rep, gl3]
  obtain ⟨_, _, _, _, is⟩ := id hst
  refine' fn_elim hb ?e ?k
  case e => k_dflt k_is
  case k =>
    rintro rfl rfl rfl
    dsimp only [List.drop]
    clear Y
    (refine (?_ : let mM' := _; let aA' := _; wpAny mM' aA' _ _ _ _); intro mM' aA')
    (try k_fold)
    k_steps
    rename Fr _ _ _ _ => F9
    exact h _ _ _ (Fr.keep F9)
set_option maxHeartbeats 1000000 in
theorem lawT0 : LawTC prog w p loose mean mg mb false := by
  intro A s st J sp a pl hds pr pL pR v vn vs ns kd x k1 k2 i ti t tL tR hvs lvs rvs nh nl nr E Q X T Rr hst V C hlen hv Hh hpr Hl Hr St Sl Sr hi0 hsub hsl Sp hrep hsub2 hback h
  obtain ⟨va, rfl⟩ := Tv.isRef hv
  have ht := V.tup
  have Y : TailT prog w p loose mean mg mb false s.heap st J sp a pl hds pL pR va vn vs ns kd x k1 k2 i t tL tR hvs lvs rvs nh nl nr := ⟨hst, V, C, hlen, hv, Hh, Hl, Hr, St, Sl, Sr, hi0, hsub, hsl, Sp, hrep, hsub2, hback⟩
  clear hst V C hlen hv Hh Hl Hr St Sl Sr hi0 hsub hsl Sp hrep hsub2 hback
  obtain ⟨hA, dA, fA, gA, uA⟩ := A
  obtain rfl : hA = none := Rr.hh
  refine wpAny_call ?_
  k_dflt (refine' enter0 (binds := [(Str.ofString "steps", .ref st), (Str.ofString "term", .ref va), (Str.ofString "heads", .ref hds), (Str.ofString "spot", .int i ti), (Str.ofString "step", .ref sp), (Str.ofString "pair", .ref pr), (Str.ofString "number", vn)]) X T ?ho ?hcd (Rm.room Rr) ?hb ?hl ?_ ?c1 ?c2 ?c3 ?c4)
  case ho => k_dflt k_is
  case hcd => k_dflt k_is
  case hb => exact BindsTo.of_eq rfl
  case hl => exact locs rfl
  case c1 => rfl
  case c2 => rfl
  case c3 => rfl
  case c4 => decide
  intro L h₁ tk1 F N
  (refine (?_ : let mM' := _; let aA' := _; wpAny mM' aA' _ _ _ _); intro mM' aA')
  k_fold
  refine wpAny_execs_cons ?_
  (refine (?_ : let q' : _ → Shared → Prop := _; let e' : Value → Shared → Prop := _; wpAny _ _ _ q' e' _)); intro q' e'
  have H : ∀ h' tk' m', Fr s.heap L h' m' → News s.heap L h' [] → m' (Str.ofString "left") = some (.ref pL) → m' (Str.ofString "right") = some (.ref pR) → m' (Str.ofString "steps") = some (.ref st) → m' (Str.ofString "term") = some (.ref va) → m' (Str.ofString "heads") = some (.ref hds) → m' (Str.ofString "spot") = some (.int i ti) → m' (Str.ofString "step") = some (.ref sp) → m' (Str.ofString "number") = some vn → q' .next { s with heap := h', toks := tk' } :=
    fun h' tk' m' F N m1 m2 m3 m4 m5 m6 m7 m8 => lawTail (s := { s with heap := h', toks := tk' }) (by k_dflt k_is) Y F X T N Rr m1 m2 m3 m4 m5 m6 m7 m8 fun h' d tk' k => h h' d tk' k
  clear_value q'
  k_steps
  rename Fr _ _ _ _ => F9
  rename News _ _ _ _ => N9
  exact H _ _ _ F9 (fun _ q => nomatch q) rfl rfl rfl rfl rfl rfl rfl rfl
end
end
theorem endOfLawT : True := trivial
/-! LawT1 -/
section
open PyProof.Rows.LCg
section
variable {prog : Program} {w : World} {A : Around} {E : Value → Shared → Prop} {s : Shared} {h₀ : Heap} {L : Addr} {m : Str → Option Value} {news : List (Addr × Obj)}
/-- a pair the other way about -/
theorem pair_rev {value slice : PySem.Expr} {t : Addr} {x y : Value} {vl vu vk : Value} {Q : Value → Shared → Prop}
    (F : Fr h₀ L s.heap m) (N : News h₀ L s.heap news) (ht : IsTup s.heap t #[x, y]) (pl : IsPart vl none) (pu : IsPart vu none) (pk : IsPart vk (some (-1)))
    (h : ∀ D h', Fr h₀ L h' m → News h₀ L h' ((D, { cls := .type "tuple", data := .seq #[y, x] }) :: news) → (∀ p ∈ news, p.1 < D) → Q (.ref D) { s with heap := h' })
    (hs : subscripted slice false (.ref t) (.ref s.heap.objs.size) = operate [.ref t, .ref s.heap.objs.size] (getItem (.ref t) (.ref s.heap.objs.size)))
    (hg : ∀ r, letTemporaryGo value (.ref t) r = pure ()) :
    wpAny (model prog w) A (subscriptTail value slice (.ref t) (.ref s.heap.objs.size)) Q E { s with heap := s.heap.push { cls := .type "slice", data := .fields #[vl, vu, vk] } } := by
  have ht' : IsTup (s.heap.push { cls := .type "slice", data := .fields #[vl, vu, vk] }) t #[x, y] := ht.keeps fun _ _ e => Heap.get?_push_of_some _ e
  refine subscriptTail_ops (s := { s with heap := s.heap.push { cls := .type "slice", data := .fields #[vl, vu, vk] } }) ht'.typeIs slot_tuple_getitem.lookup
    (getItem_tup_slice ht' (Heap.IsSliceOf.new ..) pl pu pk step_rev (fun q => by rw [whole_rev] at q; cases q) (fun _ => ?_) (by rw [slice_rev]; exact Nat.le_of_ble_eq_true rfl)) hs hg
  rw [slice_rev]
  have N1 := News.push (F.push { cls := .type "slice", data := .fields #[vl, vu, vk] }) (N.grown fun _ _ e => Heap.get?_push_of_some _ e) { cls := .type "tuple", data := .seq #[y, x] }
  exact h _ _ ((F.push _).push _) N1 fun p hp => by
    have := Heap.lt_size (N p hp).1
    rw [Heap.size_push]; exact Nat.lt_succ_of_lt this
end
theorem w141 : True := by
  k_with "M subscriptTail Name Slice ref ref" => ((fail_if_success (have := endOfLawT1)); case' FRESH => ((k_here; (with_reducible show wpAny _ _ (subscriptTail _ (PySem.Expr.Slice _ _ (some _) _) (Value.ref _) (Value.ref _)) _ _ _); k_dflt (refine' pair_rev ?F ?N ?t ?p ?q ?k ?_ ?s ?g; (case F => k_asm); (case N => k_asm); (case t => exact Fr.tup (by k_asm) (by assumption)); (case p => kmk_part); (case q => kmk_part); (case k => kmk_part); (case s => with_unfolding_all rfl); (case g => kmk_pure); k_whole); intro D' h' F' N' l1; (try k_lt l1))))
  trivial
section
variable {prog : Program} {w : World} {p : Program} {loose : List Str} {mean : ExcName → Option Value} {mg mb : Str → Option Value}
set_option maxHeartbeats 1000000 in
theorem lawT1 : LawTC prog w p loose mean mg mb true := by
  intro A s st J sp a pl hds pr pL pR v vn vs ns kd x k1 k2 i ti t tL tR hvs lvs rvs nh nl nr E Q X T Rr hst V C hlen hv Hh hpr Hl Hr St Sl Sr hi0 hsub hsl Sp hrep hsub2 hback h
  obtain ⟨va, rfl⟩ := Tv.isRef hv
  have ht := V.tup
  have Y : TailT prog w p loose mean mg mb true s.heap st J sp a pl hds pR pL va vn vs ns kd x k1 k2 i t tL tR hvs rvs lvs nh nr nl := ⟨hst, V, C, hlen, hv, Hh, Hr, Hl, St, Sr, Sl, hi0, hsub, hsl, Sp, hrep, hsub2, hback⟩
  clear hst V C hlen hv Hh Hl Hr St Sl Sr hi0 hsub hsl Sp hrep hsub2 hback
  obtain ⟨hA, dA, fA, gA, uA⟩ := A
  obtain rfl : hA = none := Rr.hh
  refine wpAny_call ?_
  k_dflt (refine' enter0 (binds := [(Str.ofString "steps", .ref st), (Str.ofString "term", .ref va), (Str.ofString "heads", .ref hds), (Str.ofString "spot", .int i ti), (Str.ofString "step", .ref sp), (Str.ofString "pair", .ref pr), (Str.ofString "number", vn)]) X T ?ho ?hcd (Rm.room Rr) ?hb ?hl ?_ ?c1 ?c2 ?c3 ?c4)
  case ho => k_dflt k_is
  case hcd => k_dflt k_is
  case hb => exact BindsTo.of_eq rfl
  case hl => exact locs rfl
  case c1 => rfl
  case c2 => rfl
  case c3 => rfl
  case c4 => decide
  intro L h₁ tk1 F N
  (refine (?_ : let mM' := _; let aA' := _; wpAny mM' aA' _ _ _ _); intro mM' aA')
  k_fold
  refine wpAny_execs_cons ?_
  (refine (?_ : let q' : _ → Shared → Prop := _; let e' : Value → Shared → Prop := _; wpAny _ _ _ q' e' _)); intro q' e'
  have H : ∀ h' tk' m', Fr s.heap L h' m' → News s.heap L h' [] → m' (Str.ofString "left") = some (.ref pR) → m' (Str.ofString "right") = some (.ref pL) → m' (Str.ofString "steps") = some (.ref st) → m' (Str.ofString "term") = some (.ref va) → m' (Str.ofString "heads") = some (.ref hds) → m' (Str.ofString "spot") = some (.int i ti) → m' (Str.ofString "step") = some (.ref sp) → m' (Str.ofString "number") = some vn → q' .next { s with heap := h', toks := tk' } :=
    fun h' tk' m' F N m1 m2 m3 m4 m5 m6 m7 m8 => lawTail (s := { s with heap := h', toks := tk' }) (by k_dflt k_is) Y F X T N Rr m1 m2 m3 m4 m5 m6 m7 m8 fun h' d tk' k => h h' d tk' k
  clear_value q'
  k_steps
  rename Fr _ _ _ _ => F9
  rename News _ _ _ _ => N9
  exact H _ _ _ F9 (fun _ q => nomatch q) rfl rfl rfl rfl rfl rfl rfl rfl
end
end
theorem endOfLawT1 : True := trivial
/-! LawN -/
section
open PyProof.Rows.LCg
section
variable {prog : Program} {w : World} {A : Around} {E : Value → Shared → Prop} {s : Shared} {base : Heap} {env : Env} {outer : List Env} {L e C D : Addr} {oe : Obj} {vs : Array Value} {K : Frag} {Q : Flow → Shared → Prop} {t : PySem.Expr} {b₀ : Stmt} {suite : List Stmt} {pos : Pos} {n : Str}
theorem hb_hit_as (hsz : 1 < vs.size) (hC : IsExc K C) (hc : oe.cls = .ref C)
    (h : wpAny (model prog w) (A.mark (some (.ref e))) (eval t env) (Clause base env outer e C oe vs K fun s₁ => ∀ EE EN h', Fly base (env :: outer) e oe vs .none h' → s₁.heap.UpToSlots h' → wpAny (model prog w) (A.mark (some (.ref e))) (storeName env n (.ref e)) (fun _ s₂ => wpAny (model prog w) (A.mark (some (.ref e))) (execs (b₀ :: suite) env) (fun f s₃ => wpAny (model prog w) A (do bindName env n .none; unbindBehindTheSuite env n pos) (fun _ s₄ => Q f s₄) E s₃) EE s₂) EN { s₁ with heap := h' }) (notedBy (model prog w) (A.mark (some (.ref e))) env (cameBackBy (model prog w) A env E)) s) :
    wpAny (model prog w) A (handleBy (.ref e) env [.ExceptHandler (some t) (some n) (b₀ :: suite) pos]) Q E s := by
  refine wpAny_handleBy_cons (codeAny_handlers_test (wpAny_mono h (fun c s₁ h₁ => ?_) fun _ _ y => y)) (by intro q; cases q)
  obtain ⟨rfl, X, x, hk⟩ := h₁
  obtain ⟨nm, N, a, b, c, hCl⟩ := hC
  obtain ⟨T, oT, ts, he, _⟩ := id x.tr
  have hCh := X _ _ hCl
  obtain ⟨hh, g, d, tk, os⟩ := s₁
  refine wpAny_excMatches_sub_self hCh he hc (by decide) ?_
  refine codeAny_handlers_suite_as ?_
  exact flight_ex (f := none) hsz x fun h₂ x₂ u₂ => hk _ _ h₂ x₂ u₂
end
theorem find_place (P : Params) {o : Obj} {v n : Value} (h : placeDict v n o) : findObj (hd.heap_1 P) 100 (some o) "place" = some (.value n) := by
  obtain ⟨h1, h2, t1, t2, rfl⟩ := h
  first | kernel_rfl | (k_dflt k_get) | (with_unfolding_all rfl)
theorem ga_100 (P : Params) : findIn (hd.heap_1 P) (.ref 100) "__getattribute__" = some (some (.builtin "BaseException.__getattribute__")) := by k_dflt k_is
theorem gx_100 (P : Params) : findIn (hd.heap_1 P) (.ref 100) "__getattr__" = some none := by k_dflt k_is
theorem mro_100 (P : Params) : mroIn (hd.heap_1 P) 100 (.type "BaseException") = some true := by k_dflt k_is
theorem slot_ga : Slot "Exception" "__getattribute__" "BaseException.__getattribute__" := PySem.F.attrBase_Exception.ga
theorem instBut {h h' : Heap} {L e d C : Addr} {vs : Array Value} {o : Obj} (hs : Heap.SameBut L h h') (he : h.get? e = some (exAt (excObj C (some d) vs) vs x)) (hd : h.get? d = some o) (n1 : e ≠ L) (n2 : d ≠ L) : InstAt h' e (exAt (excObj C (some d) vs) vs x) C (some o) :=
  ⟨hs.extBut _ _ n1 he, rfl, rfl, hs.extBut _ _ n2 hd⟩
/-- the heads of a side are not at the spot -/
structure NotThere (i : Int) (l : List (Str × Nat)) (k : Nat) (r : List (Str × Nat)) : Prop where
  ne : 0 ≤ i → (l.drop i.toNat).take k ≠ r
section
variable {prog : Program} {w : World} {A : Around} {s : Shared} {h₀ base : Heap} {outer : List Env} {L : Addr} {m : Str → Option Value} {news : List (Addr × Obj)} {p : Program} {loose : List Str} {mean : ExcName → Option Value} {mg mb : Str → Option Value} {E : Value → Shared → Prop} {Q : Value → Shared → Prop}
theorem eqHeads_not {a b : Addr} {vs ws : List Value} {i : Int} {k : Nat} {x y : List (Str × Nat)} (hn : NotThere i x k y) (hi : 0 ≤ i) (ha : s.heap.IsList a ((vs.drop i.toNat).take k).toArray) (hb : s.heap.IsList b ws.toArray) (hv : TvL (IsTup s.heap) vs (x.map itemPy)) (hw : TvL (IsTup s.heap) ws (y.map itemPy)) (h1 : GoodH x) (h2 : GoodH y) (hu : A.units + 64 < cLine)
    (h : Q (.bool false) s) : wpAny (model prog w) A (compareOp .Eq (.ref a) (.ref b)) Q E s :=
  eqHeads_use ha hb (hv.run _ _) hw (fun z hz => h1 z (List.mem_of_mem_drop (List.mem_of_mem_take hz))) h2 hu (by rw [decide_eq_false (hn.ne hi)]; exact h)
theorem stepBad_use {st J sp a pl : Addr} {v vn : Value} {vs : List Value} {ns : List Int} {kd x : Str} {k1 k2 : Tok} {b : Bool} {t tl tL tR : Tm} (PO : ProgOk prog) (C : SidesG prog w p loose mean mg mb h₀ st a vn vs ns kd x pl tL tR) (V : StepV h₀ sp a vs ns kd k1 x k2 pl b) (htl : (bif b then tR else tL) = tl) (F : Fr h₀ L s.heap m) (X : (hd.heap_1 w.params).In h₀) (T : Top p loose mean mg mb h₀)
    (hAf : A.frames = some outer) (hff : s.heap.FunFrames base outer) (hbs : base.StaysIn h₀) (Xb : (hd.heap_1 w.params).In base) (Tb : Top p loose mean mg mb base) (hsz : base.objs.size ≤ h₀.objs.size) (R : Rm A 14)
    (hst : ∃ a t n dS, InstAt h₀ st (instObj 283 dS) 283 (some (dictOf [⟨a, .str (Str.ofString "judge") t, .ref J⟩] n))) (hbd : ∀ i ∈ ns, -1000 ≤ i ∧ i ≤ 1000) (hv : Tv (IsTup s.heap) v t.py) (h1 : tl.Plain) (h2 : tl.height ≤ 60) (hvn : handedIn vn = true)
    (hbad : ∀ u, sub t ns = some u → u.Plain ∧ u.height ≤ 60 ∧ u.same tl = false)
    (h : ∀ h' d tk' e c v, Flown base outer 100 (placeDict v vn) c e s.heap h' → E (.ref e) { s with heap := h', drawn := d, toks := tk' }) :
    wpAny (model prog w) A (call (.ref 266) [.ref st, v, .ref sp, vn]) Q E s := by
  subst htl
  obtain ⟨b1, b2, b3, b4, b5⟩ := hst
  have big : h₀.objs.size ≤ s.heap.objs.size := Nat.le_trans F.above (Nat.le_of_lt F.ns.lt)
  exact stepBad _ _ _ _ _ _ _ _ _ _ _ _ _ _ _ _ _ _ _ base outer _ _ PO (X.keeps F.keep) (T.keeps F.keep) hAf hff (fun b o q => F.keep _ _ (hbs b o q)) Xb Tb (Nat.le_trans hsz big) R ⟨b1, b2, b3, b4, instLift b5 F.keep⟩ (V.keep F.keep) (C _ _ _ _ b F.keep (V.keep F.keep)) hbd hv h1 h2 hvn hbad h
end
/-- _law_is_right where the part is not there -/
def LawNC (prog : Program) (w : World) (p : Program) (loose : List Str) (mean : ExcName → Option Value) (mg mb : Str → Option Value) (b : Bool) : Prop :=
  ∀ (A : Around) (s : Shared) (st J sp a pl hds pr pL pR : Addr) (v : Value) (nn : Int) (tn : Tok) (vs : List Value) (ns : List Int) (kd x : Str) (k1 k2 : Tok) (i : Int) (ti : Tok) (t tL tR : Tm) (hvs lvs rvs : List Value) (nh nl nr : Nat) (base : Heap) (outer : List Env) (E : Value → Shared → Prop) (Q : Value → Shared → Prop),
    ProgOk prog → (hd.heap_1 w.params).In s.heap → Top p loose mean mg mb s.heap → A.frames = some outer → s.heap.FunFrames base outer → base.StaysIn s.heap → (hd.heap_1 w.params).In base → Top p loose mean mg mb base → base.objs.size ≤ s.heap.objs.size → Rm A 80 →
    (∃ a t n dS, InstAt s.heap st (instObj 283 dS) 283 (some (dictOf [⟨a, .str (Str.ofString "judge") t, .ref J⟩] n))) → StepV s.heap sp a vs ns kd k1 x k2 pl b → SidesG prog w p loose mean mg mb s.heap st a (.int nn tn) vs ns kd x pl tL tR → (∀ i ∈ ns, -1000 ≤ i ∧ i ≤ 1000) →
    Tv (IsTup s.heap) v t.py → HeadsV s.heap hds hvs nh t → IsTup s.heap pr #[.ref pL, .ref pR] → HeadsV s.heap pL lvs nl tL → HeadsV s.heap pR rvs nr tR → Small t → Small tL → Small tR →
    NotThere i (headL t) (bif b then tR else tL).size (headL (bif b then tR else tL)) → (∀ u, sub t ns = some u → u.Plain ∧ u.height ≤ 60 ∧ u.same (bif b then tR else tL) = false) →
    (∀ h' d tk', base.StaysIn h' → s.heap.UpToSlots h' → Q (.bool true) { s with heap := h', drawn := d, toks := tk' }) →
    wpAny (model prog w) A (call (.ref 346) [.ref st, v, .ref hds, .int i ti, .ref sp, .ref pr, .int nn tn]) Q E s
theorem w142 : True := by
  k_with "M subscriptTail Name Slice ref ref" => ((fail_if_success (have := endOfLawN)); case' FRESH => ((k_here; (with_reducible show wpAny _ _ (subscriptTail _ (PySem.Expr.Slice _ _ _ _) (Value.ref _) (Value.ref _)) _ _ _); k_dflt (refine' kmk_slice_lit ?F ?N ?l ?p ?q ?e ?_ ?s ?g ?z; (case F => k_asm); (case N => k_asm); (case l => (k_extra "ht_list")); (case p => kmk_part); (case q => kmk_part); (case e => first | exact pick_run _ (by first | assumption | omega) | exact pick_upto _ (by assumption) | exact pick_from _ (by omega)); (case z => exact le_line (by omega)); (case s => with_unfolding_all rfl); (case g => kmk_pure); k_whole); intro D' h' F' N' l1; (try k_lt l1))))
  trivial
theorem w143 : True := by
  k_with "M subscriptTail Name Slice ref ref" => ((fail_if_success (have := endOfLawN)); case' FRESH => ((k_here; (with_reducible show wpAny _ _ (subscriptTail _ (PySem.Expr.Slice _ _ _ _) (Value.ref _) (Value.ref _)) _ _ _); k_dflt (refine' tup_slice ?F ?N ?t ?p ?q ?k ?z ?w ?e ?y ?_ ?s ?g; (case F => k_asm); (case N => k_asm); (case t => exact Fr.tup (by k_asm) (by assumption)); (case p => kmk_part); (case q => kmk_part); (case k => first | kmk_part | exact IsPart.int _ _); (case z => first | exact step_four | exact step_rev); (case w => first | exact whole_four | exact whole_rev); (case e => first | exact slice_four | exact slice_rev); (case y => exact Nat.le_of_ble_eq_true rfl); (case s => with_unfolding_all rfl); (case g => kmk_pure); k_whole); intro D' h' F' N' l1; (try k_lt l1))))
  trivial
theorem w144 : True := by
  k_with "M call builtin:len" => ((fail_if_success (have := endOfLawN)); case' FRESH => ((k_here; (with_reducible show wpAny _ _ (call (Value.builtin _) [Value.ref _]) _ _ _); k_dflt (refine' len_old ?l ?z ?_; (case l => (k_extra "ht_list")); (case z => omega)); intro t')))
  trivial
theorem w145 : True := by
  k_with "M subscriptTail Name Slice ref ref" => ((fail_if_success (have := endOfLawN)); case' FRESH => ((k_here; (with_reducible show wpAny _ _ (subscriptTail _ (PySem.Expr.Slice _ _ (some _) _) (Value.ref _) (Value.ref _)) _ _ _); k_dflt (refine' pair_rev ?F ?N ?t ?p ?q ?k ?_ ?s ?g; (case F => k_asm); (case N => k_asm); (case t => exact Fr.tup (by k_asm) (by assumption)); (case p => kmk_part); (case q => kmk_part); (case k => kmk_part); (case s => with_unfolding_all rfl); (case g => kmk_pure); k_whole); intro D' h' F' N' l1; (try k_lt l1))))
  trivial
theorem w146 : True := by
  k_with "M bind" => ((fail_if_success (have := endOfLawN)); case' FRESH => ((refine Stop.in ?_)))
  trivial
theorem w147 : True := by
  k_with "M getAttr ref" => ((fail_if_success (have := endOfLawN)); case' FRESH => ((k_here; (with_reducible show wpAny _ _ (getAttr (Value.ref _) ("place" : Str) _) _ _ _); k_dflt (refine' get_exc slot_ga ?X ?I (ga_100 _) (gx_100 _) (mro_100 _) ?f ?h ?_; (case I => assumption); (case X => k_in); (case f => exact find_place _ (by assumption)); (case h => rfl)))))
  trivial
theorem w148 : True := by
  k_with "M call ref" => ((fail_if_success (have := endOfLawN)); case' FRESH => ((k_here; (with_reducible show wpAny _ _ (call (Value.ref 266) _) _ _ _); k_dflt (refine' stepBad_use ?P ?C ?V ?tl ?F ?X ?T ?hf ?ff ?bs ?Xb ?Tb ?sz ?R ?st ?bd ?hv ?h1 ?h2 ?vn ?hb ?_; (case P => assumption); (case C => assumption); (case V => assumption); (case tl => first | exact cond_true _ _ | exact cond_false _ _ | exact rfl); (case F => k_asm); (case X => k_asm); (case T => k_asm); (case hf => exact Around.frames_deeper (by assumption)); (case ff => exact frames_push (by k_asm) (by assumption) (funFrames_stays (Fr.keep (by k_asm)) (by assumption)) rfl); (case bs => assumption); (case Xb => assumption); (case Tb => assumption); (case sz => assumption); (case R => exact Rm.le (Rm.deeper (by assumption)) (by omega)); (case st => assumption); (case bd => assumption); (case hv => exact Tv.at0 (by k_asm) (by assumption)); (case h1 => assumption); (case h2 => assumption); (case vn => rfl); (case hb => assumption)); intro h' d' tk' e' c' v' fl'; refine Stop.in ?_)))
  trivial
theorem w149 : True := by
  k_with "M compareOp Eq ref ref" => ((fail_if_success (have := endOfLawN)); case' FRESH => ((k_here; k_dflt (refine' eqHeads_not ?n ?i ?a ?b ?v ?w ?g1 ?g2 ?u ?_; (case n => assumption); (case i => first | assumption | omega); (case a => (k_extra "ht_list")); (case b => (k_extra "ht_list")); (case v => (k_extra "ht_tvl0")); (case w => (k_extra "ht_tvl0")); (case g1 => exact headL_good _ (by assumption)); (case g2 => exact headL_good _ (by assumption)); (case u => exact Rm.units (by assumption)); k_whole))))
  trivial
theorem w150 : True := by
  k_with "M eval Name" => ((fail_if_success (have := endOfLawN)); case' FRESH => ((k_here; k_dflt (refine' nameX_L ?F ?v ?_ ?a ?b; (case F => k_asm); (case a => rfl); (case b => rfl); (case v => assumption); k_whole))))
  trivial
section
variable {prog : Program} {w : World} {p : Program} {loose : List Str} {mean : ExcName → Option Value} {mg mb : Str → Option Value}
variable {A : Around} {s : Shared} {h₀ : Heap} {L : Addr} {m : Str → Option Value} {E : Value → Shared → Prop}
variable {name qual : Str} {params : Arguments} {body : List Stmt} {scope : Scope} {dV kV doc pm cdv ct oc : Value} {an od : Option Addr} {osl : Array (Option Value)}
set_option maxRecDepth 100000 in
set_option maxHeartbeats 1000000 in
theorem lawTailN (hb : (hd.heap_1 w.params).lookup 346 = some ⟨oc, od, .func (fnOf name qual params body scope dV kV doc pm an cdv ct), osl⟩)
    {b : Bool} {st J sp a pl hds pA va : Addr} {nn : Int} {tn : Tok} {vs : List Value} {ns : List Int} {kd x : Str} {k1 k2 : Tok} {i : Int} {ti : Tok} {t tL tR : Tm} {hvs avs : List Value} {nh na : Nat} {base : Heap} {outer : List Env} {Q : Flow → Shared → Prop}
    (PO : ProgOk prog) (X : (hd.heap_1 w.params).In h₀) (T : Top p loose mean mg mb h₀) (hAf : A.frames = some outer) (hff : h₀.FunFrames base outer) (hbs : base.StaysIn h₀) (Xb : (hd.heap_1 w.params).In base) (Tb : Top p loose mean mg mb base) (hsz : base.objs.size ≤ h₀.objs.size) (hbL : base.get? L = none) (Rr : Rm A 80)
    (hst : ∃ a t n dS, InstAt h₀ st (instObj 283 dS) 283 (some (dictOf [⟨a, .str (Str.ofString "judge") t, .ref J⟩] n))) (V : StepV h₀ sp a vs ns kd k1 x k2 pl b) (C : SidesG prog w p loose mean mg mb h₀ st a (.int nn tn) vs ns kd x pl tL tR) (hbd : ∀ i ∈ ns, -1000 ≤ i ∧ i ≤ 1000)
    (hv : Tv (IsTup h₀) (.ref va) t.py) (Hh : HeadsV h₀ hds hvs nh t) (HA : HeadsV h₀ pA avs na (bif b then tR else tL)) (St : Small t) (SA : Small (bif b then tR else tL))
    (hnt : NotThere i (headL t) (bif b then tR else tL).size (headL (bif b then tR else tL))) (hbad : ∀ u, sub t ns = some u → u.Plain ∧ u.height ≤ 60 ∧ u.same (bif b then tR else tL) = false)
    (F : Fr h₀ L s.heap m) (N : News h₀ L s.heap [])
    (m1 : m (Str.ofString "left") = some (.ref pA)) (m3 : m (Str.ofString "steps") = some (.ref st)) (m4 : m (Str.ofString "term") = some (.ref va)) (m5 : m (Str.ofString "heads") = some (.ref hds)) (m6 : m (Str.ofString "spot") = some (.int i ti)) (m7 : m (Str.ofString "step") = some (.ref sp)) (m8 : m (Str.ofString "number") = some (.int nn tn))
    (h : ∀ h' d tk', base.StaysIn h' → h₀.UpToSlots h' → Q (.ret (.bool true)) { s with heap := h', drawn := d, toks := tk' }) :
    wpAny (model prog w) (A.deeper (envOf qual scope L 346 cdv)) (execs (body.drop 1) (envOf qual scope L 346 cdv)) Q E s := by
  obtain ⟨hA, dA, fA, gA, uA⟩ := A
  obtain rfl : hA = none := Rr.hh
  have ht := V.tup
  have gh1 := Hh.at_
  have gh2 := Hh.items
  have gh3 := Hh.len
  have gl1 := HA.at_
  have gl2 := HA.items
  have gl3 := HA.len
  have st1 := St.plain
  have st2 := St.low
  have st3 := St.few
  have sl1 := SA.plain
  have sl2 := SA.low
  have sl3 := SA.few
  rw [← gl3] at hnt
  obtain ⟨_, _, _, _, is⟩ := id hst
  refine' fn_elim hb ?e ?k
  case e => k_dflt k_is
  case k =>
    rintro rfl rfl rfl
    dsimp only [List.drop]
    clear Hh HA St SA hb
    (refine (?_ : let mM' := _; let aA' := _; wpAny mM' aA' _ _ _ _); intro mM' aA')
    (try k_fold)
    refine wpAny_execs_cons ?_
    (refine (?_ : let q' : _ → Shared → Prop := _; let e' : Value → Shared → Prop := _; wpAny _ _ _ q' e' _)); intro q' e'
    have H : ∀ h' tk' m', Fr h₀ L h' m' → News h₀ L h' [] → m' (Str.ofString "is_there") = some (.bool false) → m' (Str.ofString "steps") = some (.ref st) → m' (Str.ofString "term") = some (.ref va) → m' (Str.ofString "step") = some (.ref sp) → m' (Str.ofString "number") = some (.int nn tn) → q' .next { s with heap := h', toks := tk' } := by
      clear m1 m3 m4 m5 m6 m7 m8 hnt gh1 gh2 gh3 gl1 gl2 gl3 st3 sl3 F N
      intro h' tk' m' F N n1 n2 n3 n4 n5
      k_steps
      rename Fr _ _ _ _ => F9
      rename News _ _ _ _ => N9
      rename_i h9 d9 tk9 e0 c0 v0 fl
      refine Stop.out ?_
      have kk : Keep h₀ _ := fun b o q => F9.keep b o q
      have hL₀ : h₀.get? L = none := Heap.get?_none_of_le F9.above
      obtain ⟨⟨B, d0, t0, o0, k1, k2, k3, k4, x⟩, u⟩ := fl
      refine try_next (Around.frames_deeper hAf) rfl (by simp) x fun h2 y u2 => ?_
      refine hb_hit_as (base := B) (outer := outer) (oe := excObj 100 (some d0) #[.ref t0, .none, c0, .none, .bool false, .none]) (vs := #[.ref t0, .none, c0, .none, .bool false, .none]) (K := hd.heap_1 w.params) (by simp) (isExc100 w.params) rfl ?_
      have F2 := Fr.ground F9 hsz (u.trans u2) (fun b o q => y.stays b o (k1 b o q))
      have N2 := News.none base L h2
      have uu : h₀.UpToSlots h2 := (Heap.UpToSlots.of_keeps kk).trans (u.trans u2)
      clear F9 N9 kk x u u2
      k_steps
      refine ⟨rfl, Xb.keeps (Fr.keep F2), y, fun EE EN h3 y3 u3 => ?_⟩
      have F3 := Fr.ground F2 (Nat.le_refl _) u3 (fun b o q => y3.stays b o (k1 b o q))
      obtain ⟨T0, oT0, ts0, z1, _⟩ := id y3.tr
      have z2 := y3.stays _ _ k2
      have bL : B.get? L = none := y3.frames.2.1.elim fun L' q => q.elim fun o' q => by
        obtain ⟨q1, q2, _⟩ := q
        cases q1; exact q2
      refine wpAny_storeName_local rfl F3.ns fun h4 hn4 hs4 => ?_
      have F4 := Fr.set F3 hn4 hs4
      have N4 := News.none base L h4
      have I4 := instBut hs4 z1 z2 (fun q => by have q : e0 = L := q; rw [q] at z1; obtain ⟨oL, es, ep, g1, g2, _⟩ := F3.ns; have g1 : h3.get? L = some oL := g1; rw [g1] at z1; cases z1; cases g2) (fun q => by have k3 := k2; rw [q] at k3; exact absurd (bL.symm.trans k3) (by simp))
      clear F2 N2 F3
      k_steps
      refine Stop.out ?_
      refine wpAny_nameGoes_keeps rfl F4.ns rfl fun h5 v5 hn5 hs5 => ?_
      rw [show (nn == nn) = true from by simp]
      refine h _ _ _ (fun b o q => ?_) (fun b o q hn => ?_)
      · have nb : b ≠ L := fun z => by rw [z, hbL] at q; cases q
        exact hs5.extBut _ _ nb (hs4.extBut _ _ nb (y3.stays _ _ (k1 _ _ q)))
      · have nb : b ≠ L := fun z => by rw [z, hL₀] at q; cases q
        obtain ⟨sl, z⟩ := (uu.trans u3) b o q hn
        exact ⟨sl, hs5.extBut _ _ nb (hs4.extBut _ _ nb z)⟩
    clear_value q'
    k_steps
    all_goals
      rename Fr _ _ _ _ => F9
      first
        | exact H _ _ _ F9 (fun _ q => nomatch q) rfl m3 m4 m7 m8
        | exact H _ _ _ F9 (fun _ q => nomatch q) ((if_pos rfl).trans (congrArg (fun z => some (Value.bool z)) (decide_eq_false (by omega)))) m3 m4 m7 m8
set_option maxHeartbeats 1000000 in
theorem lawN0 : LawNC prog w p loose mean mg mb false := by
  intro A s st J sp a pl hds pr pL pR v nn tn vs ns kd x k1 k2 i ti t tL tR hvs lvs rvs nh nl nr base outer E Q PO X T hAf hff hbs Xb Tb hsz Rr hst V C hbd hv Hh hpr Hl Hr St Sl Sr hnt hbad h
  obtain ⟨va, rfl⟩ := Tv.isRef hv
  have ht := V.tup
  obtain ⟨hA, dA, fA, gA, uA⟩ := A
  obtain rfl : hA = none := Rr.hh
  refine wpAny_call ?_
  k_dflt (refine' enter0 (binds := [(Str.ofString "steps", .ref st), (Str.ofString "term", .ref va), (Str.ofString "heads", .ref hds), (Str.ofString "spot", .int i ti), (Str.ofString "step", .ref sp), (Str.ofString "pair", .ref pr), (Str.ofString "number", .int nn tn)]) X T ?ho ?hcd (Rm.room Rr) ?hb ?hl ?_ ?c1 ?c2 ?c3 ?c4)
  case ho => k_dflt k_is
  case hcd => k_dflt k_is
  case hb => exact BindsTo.of_eq rfl
  case hl => exact locs rfl
  case c1 => rfl
  case c2 => rfl
  case c3 => rfl
  case c4 => decide
  intro L h₁ tk1 F N
  have hbL : base.get? L = none := by
    cases q : base.get? L with
    | none => rfl
    | some o => exact absurd (Nat.lt_of_lt_of_le (Heap.lt_size (hbs _ _ q)) F.above) (Nat.lt_irrefl _)
  (refine (?_ : let mM' := _; let aA' := _; wpAny mM' aA' _ _ _ _); intro mM' aA')
  k_fold
  refine wpAny_execs_cons ?_
  (refine (?_ : let q' : _ → Shared → Prop := _; let e' : Value → Shared → Prop := _; wpAny _ _ _ q' e' _)); intro q' e'
  have H : ∀ h' tk' m', Fr s.heap L h' m' → News s.heap L h' [] → m' (Str.ofString "left") = some (.ref pL) → m' (Str.ofString "steps") = some (.ref st) → m' (Str.ofString "term") = some (.ref va) → m' (Str.ofString "heads") = some (.ref hds) → m' (Str.ofString "spot") = some (.int i ti) → m' (Str.ofString "step") = some (.ref sp) → m' (Str.ofString "number") = some (.int nn tn) → q' .next { s with heap := h', toks := tk' } :=
    fun h' tk' m' F N m1 m3 m4 m5 m6 m7 m8 => lawTailN (b := false) (s := { s with heap := h', toks := tk' }) (by k_dflt k_is) PO X T hAf hff hbs Xb Tb hsz hbL Rr hst V C hbd hv Hh Hl St Sl hnt hbad F N m1 m3 m4 m5 m6 m7 m8 fun h' d tk' k1 k2 => h h' d tk' k1 k2
  clear hst V C hv Hh Hl Hr St Sl Sr hnt hbad Xb Tb
  clear_value q'
  k_steps
  rename Fr _ _ _ _ => F9
  exact H _ _ _ F9 (fun _ q => nomatch q) rfl rfl rfl rfl rfl rfl rfl
end
end
theorem endOfLawN : True := trivial
/-! LawN1 -/
section
open PyProof.Rows.LCg
theorem w151 : True := by
  k_with "M subscriptTail Name Slice ref ref" => ((fail_if_success (have := endOfLawN1)); case' FRESH => ((k_here; (with_reducible show wpAny _ _ (subscriptTail _ (PySem.Expr.Slice _ _ (some _) _) (Value.ref _) (Value.ref _)) _ _ _); k_dflt (refine' pair_rev ?F ?N ?t ?p ?q ?k ?_ ?s ?g; (case F => k_asm); (case N => k_asm); (case t => exact Fr.tup (by k_asm) (by assumption)); (case p => kmk_part); (case q => kmk_part); (case k => kmk_part); (case s => with_unfolding_all rfl); (case g => kmk_pure); k_whole); intro D' h' F' N' l1; (try k_lt l1))))
  trivial
section
variable {prog : Program} {w : World} {p : Program} {loose : List Str} {mean : ExcName → Option Value} {mg mb : Str → Option Value}
set_option maxHeartbeats 1000000 in
theorem lawN1 : LawNC prog w p loose mean mg mb true := by
  intro A s st J sp a pl hds pr pL pR v nn tn vs ns kd x k1 k2 i ti t tL tR hvs lvs rvs nh nl nr base outer E Q PO X T hAf hff hbs Xb Tb hsz Rr hst V C hbd hv Hh hpr Hl Hr St Sl Sr hnt hbad h
  obtain ⟨va, rfl⟩ := Tv.isRef hv
  have ht := V.tup
  obtain ⟨hA, dA, fA, gA, uA⟩ := A
  obtain rfl : hA = none := Rr.hh
  refine wpAny_call ?_
  k_dflt (refine' enter0 (binds := [(Str.ofString "steps", .ref st), (Str.ofString "term", .ref va), (Str.ofString "heads", .ref hds), (Str.ofString "spot", .int i ti), (Str.ofString "step", .ref sp), (Str.ofString "pair", .ref pr), (Str.ofString "number", .int nn tn)]) X T ?ho ?hcd (Rm.room Rr) ?hb ?hl ?_ ?c1 ?c2 ?c3 ?c4)
  case ho => k_dflt k_is
  case hcd => k_dflt k_is
  case hb => exact BindsTo.of_eq rfl
  case hl => exact locs rfl
  case c1 => rfl
  case c2 => rfl
  case c3 => rfl
  case c4 => decide
  intro L h₁ tk1 F N
  have hbL : base.get? L = none := by
    cases q : base.get? L with
    | none => rfl
    | some o => exact absurd (Nat.lt_of_lt_of_le (Heap.lt_size (hbs _ _ q)) F.above) (Nat.lt_irrefl _)
  (refine (?_ : let mM' := _; let aA' := _; wpAny mM' aA' _ _ _ _); intro mM' aA')
  k_fold
  refine wpAny_execs_cons ?_
  (refine (?_ : let q' : _ → Shared → Prop := _; let e' : Value → Shared → Prop := _; wpAny _ _ _ q' e' _)); intro q' e'
  have H : ∀ h' tk' m', Fr s.heap L h' m' → News s.heap L h' [] → m' (Str.ofString "left") = some (.ref pR) → m' (Str.ofString "steps") = some (.ref st) → m' (Str.ofString "term") = some (.ref va) → m' (Str.ofString "heads") = some (.ref hds) → m' (Str.ofString "spot") = some (.int i ti) → m' (Str.ofString "step") = some (.ref sp) → m' (Str.ofString "number") = some (.int nn tn) → q' .next { s with heap := h', toks := tk' } :=
    fun h' tk' m' F N m1 m3 m4 m5 m6 m7 m8 => lawTailN (b := true) (s := { s with heap := h', toks := tk' }) (by k_dflt k_is) PO X T hAf hff hbs Xb Tb hsz hbL Rr hst V C hbd hv Hh Hr St Sr hnt hbad F N m1 m3 m4 m5 m6 m7 m8 fun h' d tk' k1 k2 => h h' d tk' k1 k2
  clear hst V C hv Hh Hl Hr St Sl Sr hnt hbad Xb Tb
  clear_value q'
  k_steps
  rename Fr _ _ _ _ => F9
  exact H _ _ _ F9 (fun _ q => nomatch q) rfl rfl rfl rfl rfl rfl rfl
end
end
theorem endOfLawN1 : True := trivial
/-! Inits -/
section
open PyProof.Rows.LCg
section
variable {prog : Program} {w : World} {A : Around} {s : Shared} {K : Frag} {C fI : Addr} {R : Result → Shared → Prop} {rest : List Value}
/-- an own class is called: its object and its dict are new -/
theorem make_own (X : K.In s.heap) (hm : makesIn K C = true) (hi : findIn K (.ref C) "__init__" = some (some (.ref fI))) (hf : typeIn K (.ref fI) = some (.type "function"))
    (h : ∀ x dx h', Keep s.heap h' → s.heap.objs.size ≤ h'.objs.size → s.heap.get? x = none → s.heap.get? dx = none → h'.get? x = some (instObj C dx) → h'.get? dx = some (dictOf [] 0) → dx < x →
      codeAny (model prog w) (A.under (.builtin "type.__call__" ⟨.ref C :: rest, []⟩)) (.call (.ref fI) ⟨.ref x :: rest, []⟩) (InitBack x R) { s with heap := h' }) :
    codeAny (model prog w) A (.call (.ref C) ⟨rest, []⟩) R s := by
  obtain ⟨hh, g, d, t, os⟩ := s
  refine make_core (makes_of X hm) (looks_findIn X hi) (fun self => bind_fn X self hf) (.inl rfl) (h _ hh.objs.size _ (fun b o e => Heap.get?_push_of_some _ (Heap.get?_push_of_some _ e)) (by show hh.objs.size ≤ ((hh.push _).push _).objs.size; rw [Heap.size_push, Heap.size_push]; omega) ?_ (Heap.get?_none_of_le (Nat.le_refl _)) ?_ ?_ ?_)
  · exact Heap.get?_none_of_le (Nat.le_succ _)
  · exact Heap.get?_push_at (by rw [Heap.size_push]) rfl
  · exact Heap.get?_push_of_some _ (Heap.get?_push_size _ rfl)
  · exact Nat.lt_succ_self _
end

/-- Steps(judge) -/
def MkSteps (prog : Program) (w : World) (p : Program) (loose : List Str) (mean : ExcName → Option Value) (mg mb : Str → Option Value) : Prop :=
  ∀ (A : Around) (s : Shared) (j : Value) (E : Value → Shared → Prop) (Q : Value → Shared → Prop),
    (hd.heap_1 w.params).In s.heap → Top p loose mean mg mb s.heap → Rm A 3 → handedIn j = true →
    (∀ h' tk st dS a t n, s.heap.get? st = none → s.heap.get? dS = none → dS ≠ st → Keep s.heap h' → h'.get? st = some (instObj 283 dS) → h'.get? dS = some (dictOf [⟨a, .str (Str.ofString "judge") t, j⟩] n) → Q (.ref st) { s with heap := h', toks := tk }) →
    wpAny (model prog w) A (call (.ref 283) [j]) Q E s
/-- Judge(rules, told) -/
def MkJudge (prog : Program) (w : World) (p : Program) (loose : List Str) (mean : ExcName → Option Value) (mg mb : Str → Option Value) : Prop :=
  ∀ (A : Around) (s : Shared) (j k : Value) (E : Value → Shared → Prop) (Q : Value → Shared → Prop),
    (hd.heap_1 w.params).In s.heap → Top p loose mean mg mb s.heap → Rm A 3 → handedIn j = true → handedIn k = true →
    (∀ h' tk J dJ a b t u n, s.heap.get? J = none → s.heap.get? dJ = none → dJ ≠ J → Keep s.heap h' → h'.get? J = some (instObj 222 dJ) → h'.get? dJ = some (dictOf [⟨a, .str (Str.ofString "rules") t, j⟩, ⟨b, .str (Str.ofString "told") u, k⟩] n) → Q (.ref J) { s with heap := h', toks := tk }) →
    wpAny (model prog w) A (call (.ref 222) [j, k]) Q E s
theorem own_two {g h' : Heap} {x dx : Addr} {o d : Obj} (a : g.get? x = none) (b : g.get? dx = none) (c : h'.get? x = some o) (e : h'.get? dx = some d) : ∀ q ∈ [(x, o), (dx, d)], h'.get? q.1 = some q.2 ∧ g.get? q.1 = none := by
  intro q hq
  rcases List.mem_cons.mp hq with rfl | hq
  · exact ⟨c, a⟩
  · rw [List.mem_singleton.mp hq]; exact ⟨e, b⟩
section
variable {prog : Program} {w : World} {p : Program} {loose : List Str} {mean : ExcName → Option Value} {mg mb : Str → Option Value}
set_option maxHeartbeats 1000000 in
theorem mk_steps : MkSteps prog w p loose mean mg mb := by
  intro A s j E Q X T R hj h
  obtain ⟨hA, dA, fA, gA, uA⟩ := A
  obtain rfl : hA = none := R.hh
  refine wpAny_call (make_own (fI := 245) X (by k_dflt k_is) (by k_dflt k_is) (by k_dflt k_is) fun x dx h1 kp sz x1 x2 x3 x4 x5 => ?_)
  k_dflt (refine' enterG (own := [(x, instObj 283 dx), (dx, dictOf [] 0)]) (binds := [(Str.ofString "self", .ref x), (Str.ofString "judge", j)]) X T sz kp (own_two x1 x2 x3 x4) ?ho ?hcd (Ro.room (Ro.make (k := 2) (Rm.ro R))) ?hb ?hl ?_ ?c1 ?c2 ?c3 ?c4)
  case ho => k_dflt k_is
  case hcd => k_dflt k_is
  case hb => exact BindsTo.of_eq rfl
  case hl => exact locs rfl
  case c1 => rfl
  case c2 => rfl
  case c3 => rfl
  case c4 => decide
  intro L h₁ tk1 F N hlt
  have hne : NeA dx x := Nat.ne_of_lt x5
  clear x3 x4 x5 sz
  refine (?_ : let mM' := _; let aA' := _; wpAny mM' aA' _ _ _ _); intro mM' aA'
  k_fold
  k_steps
  rename Fr _ _ _ _ => F9
  rename News _ _ _ _ => N9
  exact ⟨rfl, h _ _ _ _ _ _ _ x1 x2 hne (Fr.keep F9) (N9 _ (.head _)).1 (N9 _ (.tail _ (.head _))).1⟩
set_option maxHeartbeats 1000000 in
theorem mk_judge : MkJudge prog w p loose mean mg mb := by
  intro A s j k E Q X T R hj hk h
  obtain ⟨hA, dA, fA, gA, uA⟩ := A
  obtain rfl : hA = none := R.hh
  refine wpAny_call (make_own (fI := 190) X (by k_dflt k_is) (by k_dflt k_is) (by k_dflt k_is) fun x dx h1 kp sz x1 x2 x3 x4 x5 => ?_)
  k_dflt (refine' enterG (own := [(x, instObj 222 dx), (dx, dictOf [] 0)]) (binds := [(Str.ofString "self", .ref x), (Str.ofString "rules", j), (Str.ofString "told", k)]) X T sz kp (own_two x1 x2 x3 x4) ?ho ?hcd (Ro.room (Ro.make (k := 2) (Rm.ro R))) ?hb ?hl ?_ ?c1 ?c2 ?c3 ?c4)
  case ho => k_dflt k_is
  case hcd => k_dflt k_is
  case hb => exact BindsTo.of_eq rfl
  case hl => exact locs rfl
  case c1 => rfl
  case c2 => rfl
  case c3 => rfl
  case c4 => decide
  intro L h₁ tk1 F N hlt
  have hne : NeA dx x := Nat.ne_of_lt x5
  clear x3 x4 x5 sz
  refine (?_ : let mM' := _; let aA' := _; wpAny mM' aA' _ _ _ _); intro mM' aA'
  k_fold
  k_steps
  rename Fr _ _ _ _ => F9
  rename News _ _ _ _ => N9
  exact ⟨rfl, h _ _ _ _ _ _ _ _ _ x1 x2 hne (Fr.keep F9) (N9 _ (.head _)).1 (N9 _ (.tail _ (.head _))).1⟩
end
end
/-! InitR -/
section
open PyProof.Rows.LCg
section
variable {prog : Program} {w : World} {A : Around} {s : Shared} {K : Frag} {p : Program} {loose : List Str} {mean : ExcName → Option Value} {mg mb : Str → Option Value}
    {R : Result → Shared → Prop} {name qual : Str} {params : Arguments} {body : List Stmt} {scope : Scope} {dV kV doc pm cdv ct oc : Value} {an od : Option Addr} {osl : Array (Option Value)} {f : Addr} {args : Args} {binds : List (Str × Value)}
/-- a def with cells, upon a ground of its own -/
theorem enterCG {g : Heap} {own : List (Addr × Obj)}
    (X : K.In g) (T : Top p loose mean mg mb g) (sz : g.objs.size ≤ s.heap.objs.size) (st : Keep g s.heap) (hm : ∀ q ∈ own, s.heap.get? q.1 = some q.2 ∧ g.get? q.1 = none)
    (ho : K.lookup f = some ⟨oc, od, .func (fnOf name qual params body scope dV kV doc pm an cdv ct), osl⟩) (hcd : codeIn K cdv qual = true) (hroom : A.depth < recursionLimit)
    (hbind : BindsTo s (fnOf name qual params body scope dV kV doc pm an cdv ct) args binds) (hkind : (binds.all fun y => scope.names.lookup y.1 == some .local || scope.names.lookup y.1 == some .cell) = true)
    (hnd : ((cellsFrom 0 scope.names []).map (·.1)).Nodup)
    (h : ∀ L h₁ tk cells, Fr g L h₁ (bindL (envOfC qual scope L f cdv).kindOf binds fun _ => none) → News g L h₁ (cells ++ own) →
      CellsAre (bindC (envOfC qual scope L f cdv).kindOf binds fun _ => none) (cellsFrom (L + 1) scope.names []) cells →
      wpAny (model prog w) (A.deeper (envOfC qual scope L f cdv)) (execs body (envOfC qual scope L f cdv))
        (fun fl s' => R (.ok (.ret (match fl with | .ret v => v | _ => .none))) s')
        (fun e s' => wpAny (model prog w) (A.deeper (envOfC qual scope L f cdv)) (leaving (envOfC qual scope L f cdv) e) (fun _ s'' => R (.error e) s'') (fun e' s'' => R (.error e') s'') s')
        { s with heap := h₁, toks := tk })
    (hco : scope.isCoroutine = false) (hgen : scope.isGenerator = false) (hk : scope.kind = .function) : codeAny (model prog w) A (.call (.ref f) args) R s := by
  refine codeAny_call_function hroom ((X.keeps st) _ _ ho) rfl hco hgen rfl (codeRec_of (X.keeps st) hcd) (hbind _ _ _ _ ?_)
  refine wpAny_newFunctionEnv_cells hk (kindsX hkind _) fun env' he s' x => ?_
  subst he
  refine ⟨(T.nolimit.keeps st).keeps x.toInCall.keep, codeAny_func ?_⟩
  obtain ⟨h₁, tk, rfl, _⟩ := x.done
  have hk₁ := x.toInCall.keep
  obtain ⟨cells, NC, Y⟩ := Cl.news (h₀ := g) sz fun n c hm => ⟨x.cell n c (lookup_of_mem_nodup (cellsFrom_names scope.names 0 (s.heap.objs.size + 1) [] [] rfl ▸ hnd) hm), x.above n c hm⟩
  exact h s.heap.objs.size h₁ tk cells ⟨x.toInCall.ns, fun b o e => hk₁ b o (st b o e), sz⟩ (News.app NC fun q hq => ⟨hk₁ _ _ (hm q hq).1, Nat.ne_of_lt (Heap.lt_size (hm q hq).1), (hm q hq).2⟩) Y
end
section
variable {prog : Program} {w : World} {A : Around} {s : Shared} {h₀ : Heap} {L : Addr} {m : Str → Option Value} {news : List (Addr × Obj)} {p : Program} {loose : List Str} {mean : ExcName → Option Value} {mg mb : Str → Option Value} {E : Value → Shared → Prop} {Q : Value → Shared → Prop}
theorem varsG_use {v : Value} {qa qb : Str} (C : VarsC prog w p loose mean mg mb qa qb) (F : Fr h₀ L s.heap m) (X : (hd.heap_1 w.params).In h₀) (T : Top p loose mean mg mb h₀) (N : News h₀ L s.heap news) (R : Rm A 4) (hv : Tv (IsTup s.heap) v (Tm.bin (.leaf qa) (.leaf qb)).py)
    (h : ∀ l h' d tk' t1 t2 n, Fr h₀ L h' m → News h₀ L h' ((l, PySem.W.listOf (List.toArray [.str qx t1, .str qy t2]) n) :: news) → (∀ p ∈ news, p.1 ≠ l) → Q (.ref l) { s with heap := h', drawn := d, toks := tk' }) :
    wpAny (model prog w) A (call (.ref 114) [v]) Q E s := by
  refine C _ _ _ _ _ (X.keeps F.keep) (T.keeps F.keep) R hv fun l h' d tk' t1 t2 n hl k ho => ?_
  exact h l h' d tk' t1 t2 n (Fr.byKeep F k) (fresh_news F (News.byKeep N k) hl ho) (ne_of_none N hl)
end
theorem rmU {A : Around} {C : Addr} {vals : List Value} {env : Env} (r : Rm A 8) : Rm ((A.under (.builtin "type.__call__" ⟨.ref C :: vals, []⟩)).deeper env) 6 := Rm.deeper (show Rm (A.under _) 7 from ⟨r.hh, (Ro.make (k := 7) (Rm.ro r)).dp, (Ro.make (k := 7) (Rm.ro r)).un⟩)
theorem rmU0 {A : Around} {C : Addr} {vals : List Value} (r : Rm A 8) : Rm (A.under (.builtin "type.__call__" ⟨.ref C :: vals, []⟩)) 7 := ⟨r.hh, (Ro.make (k := 7) (Rm.ro r)).dp, (Ro.make (k := 7) (Rm.ro r)).un⟩
section
variable {prog : Program} {w : World} {A : Around} {E : Value → Shared → Prop} {s : Shared} {h₀ : Heap} {L : Addr} {m : Str → Option Value} {env : Env} {news : List (Addr × Obj)}
/-- a test that no item of a source passes -/
theorem CRest.none0 {elt : Expr} {x : Str} {px : Pos} {c : Expr} {scope : Scope} {cl : List (Str × Addr)} {kt : Heap → Prop} {Fin : List Value → List (Addr × Obj) → Prop} {P : Value → Prop} {vs : List Value} (hv : ∀ v ∈ vs, P v)
    (turn : ∀ (v : Value) (I : Addr) (oI : Obj) (D C : Addr) (oC : Obj) m₂ h tk (E' : Value → Shared → Prop), P v → tupObj oI = false → NsObj oC m₂ → m₂ x = some v → tupObj oC = false → Fr h₀ L h m → News h₀ L h ((I, oI) :: (C, oC) :: (D, lst []) :: news) → (∀ p ∈ news, p.1 ≠ I) → (∀ p ∈ news, p.1 ≠ C) → (∀ p ∈ news, p.1 ≠ D) → ((@Ne Nat I C) ∧ (@Ne Nat I D) ∧ (@Ne Nat C D)) →
        cTested prog w A (some c) (compEnvC scope cl C env) (fun _ => False) (CEnd h₀ L m { s with heap := h, toks := tk } I oI C oC D (lst []) kt (fun news' => SameL news' news)) E' { s with heap := h, toks := tk })
    (fin : Fin [] news) : CRest prog w A h₀ L m env (.Name x px) elt (some c) scope cl s kt Fin vs [] news := by
  induction vs with
  | nil => exact CRest.zero fin
  | cons v vs ih =>
    refine CRest.name fun I oI D C oC m₂ h tk E' hI hC hx hC2 F N n1 n2 n3 ne => ?_
    have z := turn v I oI D C oC m₂ h tk E' (hv v (.head _)) hI hC hx hC2 F N n1 n2 n3 ne
    dsimp only [cTested] at z ⊢
    refine wpAny_mono z (fun ok s₃ h₃ => ?_) fun _ _ e => e
    cases ok with
    | true => exact absurd h₃ (by simp)
    | false =>
      simp only [Bool.false_eq_true, if_false] at h₃ ⊢
      obtain ⟨h', tk', news', e, F', N', o1, o2, o3, k, hs⟩ := h₃
      cases hs
      exact ⟨h', tk', _, e, F', N', o1, o2, o3, k, ih fun y hy => hv y (.tail _ hy)⟩
end
def IsQ (v : Value) : Prop := ∃ t, v = .str qx t ∨ v = .str qy t
theorem isQ4 {t1 t2 t3 t4 : Tok} : ∀ v ∈ [Value.str qx t1, .str qy t2, .str qx t3, .str qy t4], IsQ v := by
  intro v hv
  simp only [List.mem_cons, List.not_mem_nil, or_false] at hv
  rcases hv with rfl | rfl | rfl | rfl
  · exact ⟨_, .inl rfl⟩
  · exact ⟨_, .inr rfl⟩
  · exact ⟨_, .inl rfl⟩
  · exact ⟨_, .inr rfl⟩
section
variable {prog : Program} {w : World} {A : Around} {s : Shared} {h₀ : Heap} {L : Addr} {news : List (Addr × Obj)} {E : Value → Shared → Prop} {Q : Value → Shared → Prop}
theorem any_qx : (!([qx, qy].any (· == qx))) = false := by decide +kernel
theorem any_qy : (!([qx, qy].any (· == qy))) = false := by decide +kernel
theorem notin_qx {l : Addr} {t t1 t2 : Tok} {n : Nat} (N : News h₀ L s.heap news) (hm : (l, PySem.W.listOf (List.toArray [.str qx t1, .str qy t2]) n) ∈ news) (h : Q (.bool false) s) : wpAny (model prog w) A (compareOp .NotIn (.str qx t) (.ref l)) Q E s :=
  notin_list_strs (News.isList N hm) (StrsAre.cons _ _ (StrsAre.cons _ _ StrsAre.nil)) (by rw [any_qx]; exact h)
theorem notin_qy {l : Addr} {t t1 t2 : Tok} {n : Nat} (N : News h₀ L s.heap news) (hm : (l, PySem.W.listOf (List.toArray [.str qx t1, .str qy t2]) n) ∈ news) (h : Q (.bool false) s) : wpAny (model prog w) A (compareOp .NotIn (.str qy t) (.ref l)) Q E s :=
  notin_list_strs (News.isList N hm) (StrsAre.cons _ _ (StrsAre.cons _ _ StrsAre.nil)) (by rw [any_qy]; exact h)
end
/-- Rule('swap', left, right, ()) -/
def MkRule (prog : Program) (w : World) (p : Program) (loose : List Str) (mean : ExcName → Option Value) (mg mb : Str → Option Value) : Prop :=
  ∀ (A : Around) (s : Shared) (nm vl vr : Value) (nd : Addr) (E : Value → Shared → Prop) (Q : Value → Shared → Prop),
    (hd.heap_1 w.params).In s.heap → Top p loose mean mg mb s.heap → Rm A 8 → handedIn nm = true → Tv (IsTup s.heap) vl (Tm.bin (.leaf qx) (.leaf qy)).py → Tv (IsTup s.heap) vr (Tm.bin (.leaf qy) (.leaf qx)).py → IsTup s.heap nd #[] →
    (∀ h' dr tk R dR a b c d t u x y n v4, s.heap.get? R = none → s.heap.get? dR = none → dR ≠ R → Keep s.heap h' → h'.get? R = some (instObj 309 dR) → h'.get? dR = some (dictOf [⟨a, .str (Str.ofString "name") t, nm⟩, ⟨b, .str (Str.ofString "left") u, vl⟩, ⟨c, .str (Str.ofString "right") x, vr⟩, ⟨d, .str (Str.ofString "needs") y, v4⟩] n) → Q (.ref R) { s with heap := h', drawn := dr, toks := tk }) →
    wpAny (model prog w) A (call (.ref 309) [nm, vl, vr, .ref nd]) Q E s
theorem w152 : True := by
  k_with "M eval ListComp" => ((fail_if_success (have := endOfInitR)); case' FRESH => ((k_here; (with_reducible show wpAny _ _ (eval (PySem.Expr.ListComp _ [PySem.Comprehension.mk _ _ [] _] _ _) _) _ _ _); k_dflt (refine' comp_gen0 ?F ?cl ?cell ?kind ?names ?ok ?_ ?hs; (case F => k_asm); (case cl => with_unfolding_all rfl); (case cell => decide); (case kind => rfl); (case names => decide); (case ok => decide +kernel); (case hs => intro _; with_unfolding_all rfl); k_whole))))
  trivial
theorem w153 : True := by
  k_with "M eval ListComp" => ((fail_if_success (have := endOfInitR)); case' FRESH => ((k_here; (with_reducible show wpAny _ _ (eval (PySem.Expr.ListComp _ [PySem.Comprehension.mk _ _ [_] _] _ _) _) _ _ _); k_dflt (refine' comp_gen1 ?F ?cl ?cell ?kind ?names ?ok ?_ ?hs; (case F => k_asm); (case cl => with_unfolding_all rfl); (case cell => decide); (case kind => rfl); (case names => decide); (case ok => decide +kernel); (case hs => intro _; with_unfolding_all rfl); k_whole))))
  trivial
theorem w154 : True := by
  k_with "M CRest" => ((fail_if_success (have := endOfInitR)); case' FRESH => ((k_here; k_dflt (refine' CRest.none0 (P := IsQ) ?hv (fun v' I' oI' D' C' oC' m' h' tk' E' hP' hI' hC' hx' hC2' F' N' n1' n2' n3' ne' => ?_) ?_; (case hv => exact isQ4)); k_dflt (all_goals (try (obtain ⟨t', hP'⟩ := hP'; ((refine (?_ : let q' : _ → Shared → Prop := _; let e' : Value → Shared → Prop := _; wpAny _ _ _ q' e' _)); intro q' e'); rcases hP' with hP' | hP' <;> subst hP'))))))
  trivial
theorem w155 : True := by
  k_with "M exec For Tuple Name cons nil" => ((fail_if_success (have := endOfInitR)); case' FRESH => ((k_here; k_dflt (refine' for_gen ?_ ?hs ?hE; (case hs => intro _; with_unfolding_all rfl); (case hE => passes_own); k_whole))))
  trivial
theorem w156 : True := by
  k_with "M pyIter ref" => ((fail_if_success (have := endOfInitR)); case' FRESH => ((k_here; (with_reducible show wpAny _ _ (pyIter (Value.ref _)) (fun it s₂ => LoopG _ _ _ _ _ _ _ _ it s₂) _ _); k_dflt (refine' iter_lstD ?h ?F ?N ?X ?_; (case h => first | rfl | exact Rm.hhd (by assumption)); (case F => k_asm); (case N => k_asm); (case X => exact News.isList (by k_asm) (by k_mem)); k_whole); intro i' l1; (try k_lt l1))))
  trivial
theorem w157 : True := by
  k_with "M call ref" => ((fail_if_success (have := endOfInitR)); case' FRESH => ((k_here; (with_reducible show wpAny _ _ (call (Value.ref 109) _) _ _ _); k_dflt (refine' isvar_use ?C ?F ?X ?T ?N ?R ?hv ?_; (case hv => first | exact Tv.at0 (by k_asm) (by assumption) | exact Tv.at (by assumption) (by k_asm) (by k_asm) (by k_all)); (case C => assumption); (case F => k_asm); (case X => k_asm); (case T => k_asm); (case N => k_asm); (case R => exact Rm.le (rmU (by assumption)) (by omega)); k_whole); intro h' tk' F' N')))
  trivial
theorem w158 : True := by
  k_with "M call ref" => ((fail_if_success (have := endOfInitR)); case' FRESH => ((k_here; (with_reducible show wpAny _ _ (call (Value.ref 114) _) _ _ _); k_dflt (first
  | (refine' varsG_use vars_xy ?F ?X ?T ?N ?R ?hv ?_; (case F => k_asm); (case X => k_asm); (case T => k_asm); (case N => k_asm); (case R => exact Rm.le (rmU (by assumption)) (by omega)); (case hv => exact Tv.at0 (by k_asm) (by assumption)); k_whole)
  | (refine' varsG_use vars_yx ?F ?X ?T ?N ?R ?hv ?_; (case F => k_asm); (case X => k_asm); (case T => k_asm); (case N => k_asm); (case R => exact Rm.le (rmU (by assumption)) (by omega)); (case hv => exact Tv.at0 (by k_asm) (by assumption)); k_whole)); intro l' h' d' tk' t1' t2' n' F' N' l1)))
  trivial
theorem w159 : True := by
  k_with "M exec Assign cons ListComp" => ((fail_if_success (have := endOfInitR)); case' FRESH => ((k_here; (with_reducible show wpAny _ _ (exec (PySem.Stmt.Assign _ (PySem.Expr.ListComp _ [PySem.Comprehension.mk _ _ [_] _] _ _) _) _) _ _ _); k_dflt (refine' asgComp (c := some _) ?F ?L ?sw ?cl ?cell ?kind ?names ?ok ?y ?p ?_ ?hs; (case F => k_asm); (case L => rfl); (case sw => with_unfolding_all rfl); (case cl => with_unfolding_all rfl); (case cell => decide); (case kind => rfl); (case names => decide); (case ok => decide +kernel); (case y => rfl); (case p => rfl); (case hs => intro _; with_unfolding_all rfl); k_whole))))
  trivial
theorem w160 : True := by
  k_with "M compareOp NotEq ref ref" => ((fail_if_success (have := endOfInitR)); case' FRESH => ((k_here; k_dflt (refine' neStrs_use ?N ?a ?b ?v ?w ?s ?u ?_; (case N => k_asm); (case a => k_mem); (case b => k_mem); (case v => exact StrsAre.nil); (case w => exact StrsAre.nil); (case s => exact shaped_nil); (case u => exact Rm.units (rmU0 (by assumption))); k_whole))))
  trivial
theorem w161 : True := by
  k_with "M compareOp NotIn str ref" => ((fail_if_success (have := endOfInitR)); case' FRESH => ((k_here; first | ((with_reducible show wpAny _ _ (compareOp CmpOp.NotIn (Value.str qx _) (Value.ref _)) _ _ _); k_dflt (refine' notin_qx ?N ?m ?_; (case N => k_asm); (case m => k_mem); k_whole)) | ((with_reducible show wpAny _ _ (compareOp CmpOp.NotIn (Value.str qy _) (Value.ref _)) _ _ _); k_dflt (refine' notin_qy ?N ?m ?_; (case N => k_asm); (case m => k_mem); k_whole)))))
  trivial
theorem w162 : True := by
  k_with "M UEndD" => ((fail_if_success (have := endOfInitR)); case' FRESH => ((refine Stop.in ?_)))
  trivial
section
variable {prog : Program} {w : World} {p : Program} {loose : List Str} {mean : ExcName → Option Value} {mg mb : Str → Option Value}
set_option maxHeartbeats 800000 in
theorem mk_rule : MkRule prog w p loose mean mg mb := by
  intro A s nm vl vr nd E Q X T R hnm hvl hvr hnd h
  obtain ⟨hA, dA, fA, gA, uA⟩ := A
  obtain rfl : hA = none := R.hh
  obtain ⟨al, rfl⟩ := Tv.isRef hvl
  obtain ⟨ar, rfl⟩ := Tv.isRef hvr
  have i3 : IsVarC prog w p loose mean mg mb (.bin (.leaf qx) (.leaf qy)) false := isvar_bin
  refine wpAny_call (make_own (fI := 299) X (by k_dflt k_is) (by k_dflt k_is) (by k_dflt k_is) fun x dx h1 kp sz x1 x2 x3 x4 x5 => ?_)
  k_dflt (refine' enterCG (own := [(x, instObj 309 dx), (dx, dictOf [] 0)]) (binds := [(Str.ofString "self", .ref x), (Str.ofString "name", nm), (Str.ofString "left", .ref al), (Str.ofString "right", .ref ar), (Str.ofString "needs", .ref nd)]) X T sz kp (own_two x1 x2 x3 x4) ?ho ?hcd (Ro.room (Ro.make (k := 7) (Rm.ro R))) ?hb ?hl ?hnd ?_ ?c1 ?c2 ?c3)
  case ho => k_dflt k_is
  case hcd => k_dflt k_is
  case hb => exact BindsTo.of_eq rfl
  case hl => exact rfl
  case hnd => decide +kernel
  case c1 => rfl
  case c2 => rfl
  case c3 => rfl
  intro L h₁ tk1 cells F N Y
  k_cells Y
  (try simp only [List.cons_append, List.nil_append] at N)
  have hne : NeA dx x := Nat.ne_of_lt x5
  clear x3 x4 x5 sz
  refine (?_ : let mM' := _; let aA' := _; wpAny mM' aA' _ _ _ _); intro mM' aA'
  k_fold
  k_steps
  refine Stop.out ?_
  rename Fr _ _ _ _ => F9
  rename News _ _ _ _ => N9
  k_dflt (refine' UEndD.intro F9 N9 ?hD ?hn ?ht ?_)
  case hD => k_all
  case hn => k_all
  case ht => exact News.isList (by k_asm) (by k_mem)
  refine RestD.zero fun h9 d9 tk9 F8 N8 => ?_
  have N7 : News s.heap L h9 [(x, instObj 309 dx), (dx, dictOf [] 0)] := fun q hq => N8 q (List.mem_of_mem_drop (i := 12) hq)
  clear F9 N9 N8
  k_steps

  rename Fr _ _ _ _ => F9
  rename News _ _ _ _ => N9
  exact ⟨rfl, h _ _ _ _ _ _ _ _ _ _ _ _ _ _ _ x1 x2 hne (Fr.keep F9) (N9 _ (.head _)).1 (N9 _ (.tail _ (.head _))).1⟩
end
end
theorem endOfInitR : True := trivial
/-! PlainL -/
section
/-- heads are a prefix code -/
theorem headL_inj : ∀ (t u : Tm) (r r' : List (Str × Nat)), headL t ++ r = headL u ++ r' → t = u ∧ r = r'
  | .leaf c, .leaf d, r, r', h => by simp [headL] at h; obtain ⟨rfl, rfl⟩ := h; exact ⟨rfl, rfl⟩
  | .leaf c, .un u, r, r', h => by simp [headL] at h
  | .leaf c, .bin u v, r, r', h => by simp [headL] at h
  | .un t, .leaf d, r, r', h => by simp [headL] at h
  | .un t, .un u, r, r', h => by
    simp [headL] at h
    obtain ⟨rfl, e⟩ := headL_inj t u r r' h
    exact ⟨rfl, e⟩
  | .un t, .bin u v, r, r', h => by simp [headL] at h
  | .bin t u, .leaf d, r, r', h => by simp [headL] at h
  | .bin t u, .un v, r, r', h => by simp [headL] at h
  | .bin t u, .bin v x, r, r', h => by
    simp [headL] at h
    obtain ⟨a1, e1⟩ := headL_inj t v _ _ h
    obtain ⟨a2, e2⟩ := headL_inj u x _ _ e1
    exact ⟨by rw [a1, a2], e2⟩
theorem headL_there {t u : Tm} {k : Nat} {rest : List (Str × Nat)} {l : List (Str × Nat)} (h : l.drop k = headL t ++ rest) : ((l.drop k).take u.size = headL u) ↔ u = t := by
  constructor
  · intro e
    have e2 : headL u ++ (l.drop k).drop u.size = headL t ++ rest := by rw [← e, List.take_append_drop, h]
    exact (headL_inj u t _ _ e2).1
  · rintro rfl
    rw [h, ← headL_length u, List.take_left]
/-- what stands of the part number k of a term -/
structure PartAtK (t : Tm) (k : Nat) (ns : List Int) (x : Tm) : Prop where
  sub : sub t ns = some x
  cut : headL t = (headL t).take k ++ headL x ++ (headL t).drop (k + x.size)
  fits : k + x.size ≤ t.size
  put : ∀ u, headL (rep t ns u) = (headL t).take k ++ headL u ++ (headL t).drop (k + x.size)
  got : ∀ u, Mine.sub (rep t ns u) ns = some u
  back : ∀ u, rep (rep t ns u) ns x = t
theorem partK0 (t : Tm) : PartAtK t 0 [] t := by
  have e : (headL t).drop t.size = [] := by rw [← headL_length t, List.drop_length]
  refine ⟨by cases t <;> rfl, ?_, by omega, fun u => ?_, fun u => ?_, fun u => ?_⟩
  · simp [e]
  · rw [rep_nil]; simp [e]
  · rw [rep_nil]; cases u <;> rfl
  · rw [rep_nil]
theorem partsK : ∀ (t : Tm) (k : Nat) (y : List Int × Tm), (partsL t)[k]? = some y → PartAtK t k y.1 y.2
  | .leaf c, k, y, h => by
    cases k with
    | zero =>
      simp [partsL] at h
      subst h
      exact ⟨rfl, by simp [headL, Tm.size], by simp [Tm.size], fun u => by simp [rep, headL, Tm.size], fun u => by simp [rep, Mine.sub], fun u => by simp [rep]⟩
    | succ k => simp [partsL] at h
  | .un t, k, y, h => by
    cases k with
    | zero => simp [partsL] at h; subst h; exact partK0 _
    | succ k =>
      simp only [partsL, List.getElem?_cons_succ, List.getElem?_map, Option.map_eq_some_iff] at h
      obtain ⟨z, hz, rfl⟩ := h
      obtain ⟨a, b, c, d, e, f⟩ := partsK t k z hz
      have eq : k + 1 + z.2.size = (k + z.2.size) + 1 := by omega
      refine ⟨by simpa [under, Mine.sub] using a, ?_, by simp only [under, Tm.size]; omega, fun u => ?_, fun u => ?_, fun u => ?_⟩
      · simp only [under, headL, List.take_succ_cons, eq, List.drop_succ_cons, List.cons_append]; rw [← b]
      · simp only [under, rep, headL, List.take_succ_cons, eq, List.drop_succ_cons, List.cons_append]; rw [d]
      · simpa [under, rep, Mine.sub] using e u
      · simp only [under, rep]; rw [f]
  | .bin t t', k, y, h => by
    cases k with
    | zero => simp [partsL] at h; subst h; exact partK0 _
    | succ k =>
      simp only [partsL, List.getElem?_cons_succ] at h
      have l1 : (headL t).length = t.size := headL_length t
      by_cases hk : k < t.size
      · rw [List.getElem?_append_left (by rw [List.length_map, partsL_length]; exact hk)] at h
        simp only [List.getElem?_map, Option.map_eq_some_iff] at h
        obtain ⟨z, hz, rfl⟩ := h
        obtain ⟨a, b, c, d, e, f⟩ := partsK t k z hz
        have eq : k + 1 + z.2.size = (k + z.2.size) + 1 := by omega
        have tk : (headL t ++ headL t').take k = (headL t).take k := List.take_append_of_le_length (by omega)
        have dr : (headL t ++ headL t').drop (k + z.2.size) = (headL t).drop (k + z.2.size) ++ headL t' := List.drop_append_of_le_length (by omega)
        refine ⟨by simpa [under, Mine.sub] using a, ?_, by simp only [under, Tm.size]; omega, fun u => ?_, fun u => ?_, fun u => ?_⟩
        · simp only [under, headL, List.take_succ_cons, eq, List.drop_succ_cons, List.cons_append, tk, dr]; rw [← List.append_assoc, ← b]
        · simp only [under, rep, if_true, headL, List.take_succ_cons, eq, List.drop_succ_cons, List.cons_append, tk, dr]; simp only [d, List.append_assoc]
        · simpa [under, rep, Mine.sub] using e u
        · simp only [under, rep, if_true]; rw [f]
      · rw [List.getElem?_append_right (by rw [List.length_map, partsL_length]; omega)] at h
        simp only [List.length_map, partsL_length, List.getElem?_map, Option.map_eq_some_iff] at h
        obtain ⟨z, hz, rfl⟩ := h
        obtain ⟨a, b, c, d, e, f⟩ := partsK t' (k - t.size) z hz
        have eq : k + 1 + z.2.size = (k + z.2.size) + 1 := by omega
        have tk : (headL t ++ headL t').take k = headL t ++ (headL t').take (k - t.size) := by rw [List.take_append, l1, List.take_of_length_le (by omega)]
        have dr : (headL t ++ headL t').drop (k + z.2.size) = (headL t').drop (k - t.size + z.2.size) := by rw [List.drop_append, l1, List.drop_of_length_le (by omega), List.nil_append]; congr 1; omega
        refine ⟨by simpa [under, Mine.sub] using a, ?_, by simp only [under, Tm.size]; omega, fun u => ?_, fun u => ?_, fun u => ?_⟩
        · simp only [under, headL, List.take_succ_cons, eq, List.drop_succ_cons, List.cons_append, tk, dr, List.append_assoc]; rw [← List.append_assoc ((headL t').take _), ← b]
        · simp only [under, rep, headL, List.take_succ_cons, eq, List.drop_succ_cons, List.cons_append, tk, dr, List.append_assoc]; rw [if_neg (by decide)]; simp only [headL]; rw [d, List.append_assoc]
        · simpa [under, rep, Mine.sub] using e u
        · simp only [under, rep]; rw [if_neg (by decide)]; simp only [rep]; rw [if_neg (by decide), f]
end
/-! LawAll -/
section
open PyProof.Rows.LCg
theorem rep_height : ∀ (t : Tm) (ns : List Int) (u : Tm), (rep t ns u).height ≤ t.height + u.height
  | t, [], u => by rw [rep_nil]; omega
  | .leaf x, _ :: _, u => by simp [rep]
  | .un t, i :: ns, u => by have := rep_height t ns u; simp only [rep, Tm.height]; omega
  | .bin a b, i :: ns, u => by
    have h1 := rep_height a ns u
    have h2 := rep_height b ns u
    simp only [rep]
    split <;> simp only [Tm.height] <;> omega
theorem rep_size : ∀ (t : Tm) (ns : List Int) (u : Tm), (rep t ns u).size ≤ t.size + u.size
  | t, [], u => by rw [rep_nil]; omega
  | .leaf x, _ :: _, u => by simp [rep]
  | .un t, i :: ns, u => by have := rep_size t ns u; simp only [rep, Tm.size]; omega
  | .bin a b, i :: ns, u => by
    have h1 := rep_size a ns u
    have h2 := rep_size b ns u
    simp only [rep]
    split <;> simp only [Tm.size] <;> omega
theorem rep_plain : ∀ (t : Tm) (ns : List Int) (u : Tm), t.Plain → u.Plain → (rep t ns u).Plain
  | t, [], u, _, h => by rw [rep_nil]; exact h
  | .leaf x, _ :: _, u, h, _ => h
  | .un t, i :: ns, u, h, g => rep_plain t ns u h g
  | .bin a b, i :: ns, u, h, g => by
    simp only [rep]
    split
    · exact ⟨rep_plain a ns u h.1 g, h.2⟩
    · exact ⟨h.1, rep_plain b ns u h.2 g⟩
theorem sub_low : ∀ (t : Tm) (ns : List Int) (u : Tm), sub t ns = some u → t.Plain → u.Plain ∧ u.height ≤ t.height ∧ u.size ≤ t.size
  | t, [], u, h, hp => by
    have e : t = u := by cases t <;> (simp only [sub] at h; exact Option.some.inj h)
    subst e; exact ⟨hp, Nat.le_refl _, Nat.le_refl _⟩
  | .leaf x, _ :: _, u, h, _ => by simp [sub] at h
  | .un t, i :: ns, u, h, hp => by
    simp only [sub] at h
    split at h
    · have := sub_low t ns u h hp
      exact ⟨this.1, Nat.le_trans this.2.1 (Nat.le_succ _), Nat.le_trans this.2.2 (Nat.le_succ _)⟩
    · cases h
  | .bin a b, i :: ns, u, h, hp => by
    simp only [sub] at h
    simp only [Tm.height, Tm.size]
    split at h
    · have := sub_low a ns u h hp.1
      exact ⟨this.1, by omega, by omega⟩
    · split at h
      · have := sub_low b ns u h hp.2
        exact ⟨this.1, by omega, by omega⟩
      · cases h
/-- where a step stands: at the part number i, or nowhere -/
inductive Spot (t : Tm) : Int → List Int → Prop
  | there {k : Nat} {ns : List Int} {x : Tm} (p : PartAtK t k ns x) : Spot t (k : Int) ns
  | none {ns : List Int} (h : sub t ns = none) : Spot t (-1) ns
/-- a term that the law draws -/
structure Drawn3 (t : Tm) : Prop where
  plain : t.Plain
  low : t.height ≤ 10
  few : t.size ≤ 40
theorem Drawn3.small {t : Tm} (x : Drawn3 t) : Small t := ⟨x.plain, Nat.le_trans x.low (by decide), Nat.le_trans x.few (by decide)⟩
theorem Drawn3.rep {t u : Tm} (x : Drawn3 t) (y : Drawn3 u) (ns : List Int) : Small (rep t ns u) := by
  have a := rep_height t ns u
  have b := rep_size t ns u
  have := x.low; have := y.low; have := x.few; have := y.few
  exact ⟨rep_plain _ _ _ x.plain y.plain, by omega, by omega⟩
/-- _law_is_right -/
def LawC (prog : Program) (w : World) (p : Program) (loose : List Str) (mean : ExcName → Option Value) (mg mb : Str → Option Value) : Prop :=
  ∀ (A : Around) (s : Shared) (st J sp a pl hds pr pL pR : Addr) (v : Value) (nn : Int) (tn : Tok) (vs : List Value) (ns : List Int) (kd x : Str) (k1 k2 : Tok) (b : Bool) (i : Int) (ti : Tok) (t tL tR : Tm) (hvs lvs rvs : List Value) (nh nl nr : Nat) (base : Heap) (outer : List Env) (E : Value → Shared → Prop) (Q : Value → Shared → Prop),
    ProgOk prog → (hd.heap_1 w.params).In s.heap → Top p loose mean mg mb s.heap → A.frames = some outer → s.heap.FunFrames base outer → base.StaysIn s.heap → (hd.heap_1 w.params).In base → Top p loose mean mg mb base → base.objs.size ≤ s.heap.objs.size → Rm A 80 →
    (∃ a t n dS, InstAt s.heap st (instObj 283 dS) 283 (some (dictOf [⟨a, .str (Str.ofString "judge") t, .ref J⟩] n))) → StepV s.heap sp a vs ns kd k1 x k2 pl b → SidesG prog w p loose mean mg mb s.heap st a (.int nn tn) vs ns kd x pl tL tR → ns.length ≤ 10 → (∀ i ∈ ns, -1000 ≤ i ∧ i ≤ 1000) →
    Tv (IsTup s.heap) v t.py → HeadsV s.heap hds hvs nh t → IsTup s.heap pr #[.ref pL, .ref pR] → HeadsV s.heap pL lvs nl tL → HeadsV s.heap pR rvs nr tR → Drawn3 t → Drawn3 tL → Drawn3 tR → Spot t i ns →
    (∀ h' d tk', base.StaysIn h' → s.heap.UpToSlots h' → Q (.bool true) { s with heap := h', drawn := d, toks := tk' }) →
    wpAny (model prog w) A (call (.ref 346) [.ref st, v, .ref hds, .int i ti, .ref sp, .ref pr, .int nn tn]) Q E s
section
variable {prog : Program} {w : World} {p : Program} {loose : List Str} {mean : ExcName → Option Value} {mg mb : Str → Option Value}
theorem law_all : LawC prog w p loose mean mg mb := by
  intro A s st J sp a pl hds pr pL pR v nn tn vs ns kd x k1 k2 b i ti t tL tR hvs lvs rvs nh nl nr base outer E Q PO X T hAf hff hbs Xb Tb hsz Rr hst V C hlen hbd hv Hh hpr Hl Hr Dt Dl Dr Sp h
  have no : NotThere i (headL t) (bif b then tR else tL).size (headL (bif b then tR else tL)) → (∀ u, sub t ns = some u → u.Plain ∧ u.height ≤ 60 ∧ u.same (bif b then tR else tL) = false) →
      wpAny (model prog w) A (call (.ref 346) [.ref st, v, .ref hds, .int i ti, .ref sp, .ref pr, .int nn tn]) Q E s := fun n1 n2 => by
    cases b with
    | false => exact lawN0 _ _ _ _ _ _ _ _ _ _ _ _ _ _ _ _ _ _ _ _ _ _ _ _ _ _ _ _ _ _ _ base outer _ _ PO X T hAf hff hbs Xb Tb hsz Rr hst V C hbd hv Hh hpr Hl Hr Dt.small Dl.small Dr.small n1 n2 h
    | true => exact lawN1 _ _ _ _ _ _ _ _ _ _ _ _ _ _ _ _ _ _ _ _ _ _ _ _ _ _ _ _ _ _ _ base outer _ _ PO X T hAf hff hbs Xb Tb hsz Rr hst V C hbd hv Hh hpr Hl Hr Dt.small Dl.small Dr.small n1 n2 h
  cases Sp with
  | none hn => exact no ⟨fun q => absurd q (by decide)⟩ fun u q => by rw [hn] at q; cases q
  | @there k ns y P =>
    have hdr : (headL t).drop k = headL y ++ (headL t).drop (k + y.size) := by
      have e := congrArg (List.drop k) P.cut
      have l : ((headL t).take k).length = k := by rw [List.length_take, headL_length]; have := P.fits; omega
      rw [List.append_assoc, List.drop_append_of_le_length (by omega), List.drop_of_length_le (l := (headL t).take k) (by omega), List.nil_append] at e
      exact e
    by_cases e : (bif b then tR else tL) = y
    · have hk : ∀ h' d tk', Keep s.heap h' → Q (.bool true) { s with heap := h', drawn := d, toks := tk' } := fun h' d tk' k => h h' d tk' (fun c o q => k c o (hbs c o q)) (Heap.UpToSlots.of_keeps k)
      subst e
      cases b with
      | false => exact lawT0 _ _ _ _ _ _ _ _ _ _ _ _ _ _ _ _ _ _ _ _ _ _ _ _ _ _ _ _ _ _ _ _ X T Rr hst V C hlen hv Hh hpr Hl Hr Dt.small Dl.small Dr.small (Int.natCast_nonneg k) P.sub (by rw [Int.toNat_natCast]; exact (headL_there hdr).mpr rfl) (Dt.rep Dr ns) (by rw [Int.toNat_natCast]; exact P.put tR) (P.got tR) (P.back tR) hk
      | true => exact lawT1 _ _ _ _ _ _ _ _ _ _ _ _ _ _ _ _ _ _ _ _ _ _ _ _ _ _ _ _ _ _ _ _ X T Rr hst V C hlen hv Hh hpr Hl Hr Dt.small Dl.small Dr.small (Int.natCast_nonneg k) P.sub (by rw [Int.toNat_natCast]; exact (headL_there hdr).mpr rfl) (Dt.rep Dl ns) (by rw [Int.toNat_natCast]; exact P.put tL) (P.got tL) (P.back tL) hk
    · refine no ⟨fun _ q => e ((headL_there hdr).mp (by rw [Int.toNat_natCast] at q; exact q))⟩ fun u q => ?_
      obtain ⟨a1, a2, a3⟩ := sub_low _ _ _ q Dt.plain
      refine ⟨a1, by have := Dt.low; omega, ?_⟩
      cases z : u.same (bif b then tR else tL) with
      | false => rfl
      | true => exact absurd (Option.some.inj (P.sub.symm.trans q)).symm (fun w => e ((Tm.same_iff _ _).mp z ▸ w))
variable {A : Around} {s : Shared} {h₀ : Heap} {L : Addr} {m : Str → Option Value} {news : List (Addr × Obj)} {env : Env} {E : Value → Shared → Prop} {Q : Value → Shared → Prop}
/-- what a call that changes nothing but the frames' slots leaves of a frame and its ledger -/
theorem frame_back {h' : Heap} (F : Fr h₀ L s.heap m) (N : News h₀ L s.heap news) (st : (hideAll s.heap [L]).StaysIn h') (u : s.heap.UpToSlots h') : Fr h₀ L h' m ∧ News h₀ L h' news := by
  obtain ⟨oL, es, ep, hL, hd, hk, hf⟩ := F.ns
  obtain ⟨sl', e⟩ := u _ _ hL (fun vs q => by rw [hd] at q; cases q)
  have hn : h₀.get? L = none := Heap.get?_none_of_le F.above
  have up : ∀ b o, b ≠ L → s.heap.get? b = some o → h'.get? b = some o := fun b o n q => st b o (hideAll_get _ q (fun hm => n (List.mem_singleton.mp hm)))
  exact ⟨⟨⟨_, es, ep, e, hd, hk, hf⟩, fun b o q => up b o (fun z => by rw [z, hn] at q; cases q) (F.keep b o q), F.above⟩, fun q hq => ⟨up _ _ (N q hq).2.1 (N q hq).1, (N q hq).2⟩⟩
theorem law_use {st J sp a pl hds pr pL pR : Addr} {v : Value} {nn : Int} {tn : Tok} {vs : List Value} {ns : List Int} {kd x : Str} {k1 k2 : Tok} {b : Bool} {i : Int} {ti : Tok} {t tL tR : Tm} {hvs lvs rvs : List Value} {nh nl nr : Nat}
    (PO : ProgOk prog) (F : Fr h₀ L s.heap m) (X : (hd.heap_1 w.params).In h₀) (T : Top p loose mean mg mb h₀) (N : News h₀ L s.heap news) (hAf : A.frames = some [env]) (hk : env.scope.kind ≠ .module) (hf : env.frame = some L) (R : Rm A 80)
    (hst : ∃ a t n dS, InstAt s.heap st (instObj 283 dS) 283 (some (dictOf [⟨a, .str (Str.ofString "judge") t, .ref J⟩] n))) (V : StepV s.heap sp a vs ns kd k1 x k2 pl b) (C : SidesG prog w p loose mean mg mb s.heap st a (.int nn tn) vs ns kd x pl tL tR) (hlen : ns.length ≤ 10) (hbd : ∀ i ∈ ns, -1000 ≤ i ∧ i ≤ 1000)
    (hv : Tv (IsTup s.heap) v t.py) (Hh : HeadsV s.heap hds hvs nh t) (hpr : IsTup s.heap pr #[.ref pL, .ref pR]) (Hl : HeadsV s.heap pL lvs nl tL) (Hr : HeadsV s.heap pR rvs nr tR) (Dt : Drawn3 t) (Dl : Drawn3 tL) (Dr : Drawn3 tR) (Sp : Spot t i ns)
    (h : ∀ h' d tk', Fr h₀ L h' m → News h₀ L h' news → Q (.bool true) { s with heap := h', drawn := d, toks := tk' }) :
    wpAny (model prog w) A (call (.ref 346) [.ref st, v, .ref hds, .int i ti, .ref sp, .ref pr, .int nn tn]) Q E s := by
  have hn : h₀.get? L = none := Heap.get?_none_of_le F.above
  have kp : Keep h₀ (hideAll s.heap [L]) := fun b o q => hideAll_get _ (F.keep b o q) fun hm => by rw [List.mem_singleton.mp hm, hn] at q; cases q
  obtain ⟨oL, es, ep, hL, hd, _⟩ := id F.ns
  refine law_all _ _ _ _ _ _ _ _ _ _ _ _ _ _ _ _ _ _ _ _ _ _ _ _ _ _ _ _ _ _ _ _ (hideAll s.heap [L]) [env] _ _ PO (X.keeps F.keep) (T.keeps F.keep) hAf ⟨hk, ⟨L, oL, hf, hideAll_none _ (.head _), hL, fun vs q => by rw [hd] at q; cases q⟩, trivial⟩ (fun b o q => of_hideAll _ q) (X.keeps kp) (T.keeps kp) (Nat.le_of_eq (hideAll_size _ _)) R hst V C hlen hbd hv Hh hpr Hl Hr Dt Dl Dr Sp fun h' d tk' s1 u => ?_
  obtain ⟨F', N'⟩ := frame_back F N s1 u
  exact h h' d tk' F' N'
end
end
/-! LawS -/
section
open PyProof.Rows.LCg
def lab (c : Bool) : Str := bif c then t1 else t0
/-- what the law has built ahead of its loop -/
structure LS (prog : Program) (w : World) (H : Heap) (st J td rd R hds rn : Addr) (P q x y : Bool → Addr) (l r : Bool → Value) (a b : Bool → Tm) (xs ys : Bool → List Value) (nx ny : Bool → Nat) (vt vl vr : Value) (t : Tm) (hvs : List Value) (nh : Nat) : Prop where
  jat : JAt prog w H st J td rd R (.ref (P false)) (.ref (P true)) vl vr
  pair : ∀ c, IsTup H (P c) #[l c, r c]
  left : ∀ c, Tv (IsTup H) (l c) (a c).py
  right : ∀ c, Tv (IsTup H) (r c) (b c).py
  da : ∀ c, Drawn3 (a c)
  db : ∀ c, Drawn3 (b c)
  term : Tv (IsTup H) vt t.py
  dt : Drawn3 t
  heads : HeadsV H hds hvs nh t
  runs : H.DictOf (strKind prog w) rn [(t0, .ref (q false)), (t1, .ref (q true))]
  rns : (rn == sysModules) = false
  run : ∀ c, IsTup H (q c) #[.ref (x c), .ref (y c)]
  hx : ∀ c, HeadsV H (x c) (xs c) (nx c) (a c)
  hy : ∀ c, HeadsV H (y c) (ys c) (ny c) (b c)
theorem HeadsV.keep {h h' : Heap} {l : Addr} {vs : List Value} {n : Nat} {t : Tm} (x : HeadsV h l vs n t) (k : Keep h h') : HeadsV h' l vs n t := ⟨k _ _ x.at_, x.items.mono fun _ _ y => y.keeps k, x.len⟩
section
variable {prog : Program} {w : World} {p : Program} {loose : List Str} {mean : ExcName → Option Value} {mg mb : Str → Option Value}
variable {A : Around} {s : Shared} {h₀ H : Heap} {L : Addr} {m : Str → Option Value} {news : List (Addr × Obj)} {env : Env} {E : Value → Shared → Prop} {Q : Value → Shared → Prop}
theorem toldR_use {st J td rd R hds rn sp ap pl : Addr} {P q x y : Bool → Addr} {l r : Bool → Value} {a b : Bool → Tm} {xs ys : Bool → List Value} {nx ny : Bool → Nat} {vt vl vr : Value} {t : Tm} {hvs : List Value} {nh : Nat}
    {vs : List Value} {ns : List Int} {k1 k2 : Tok} {i nn : Int} {ti tn : Tok}
    (c bk : Bool) (S : LS prog w H st J td rd R hds rn P q x y l r a b xs ys nx ny vt vl vr t hvs nh) (kH : Keep H s.heap)
    (PO : ProgOk prog) (F : Fr h₀ L s.heap m) (X : (hd.heap_1 w.params).In h₀) (T : Top p loose mean mg mb h₀) (N : News h₀ L s.heap news) (hAf : A.frames = some [env]) (hk : env.scope.kind ≠ .module) (hf : env.frame = some L) (Rr : Rm A 80)
    (hp : IsTup s.heap ap vs.toArray) (hi : IntV vs ns) (hlen : ns.length ≤ 10) (hbd : ∀ i ∈ ns, -1000 ≤ i ∧ i ≤ 1000) (Sp : Spot t i ns)
    (hsp : IsTup s.heap sp #[.ref ap, .str (Str.ofString "told") k1, .str (lab c) k2, .ref pl, .bool bk]) (hpl : IsTup s.heap pl #[])
    (h : ∀ h' d tk', Fr h₀ L h' m → News h₀ L h' news → Q (.bool true) { s with heap := h', drawn := d, toks := tk' }) :
    wpAny (model prog w) A (call (.ref 346) [.ref st, vt, .ref hds, .int i ti, .ref sp, .ref (q c), .int nn tn]) Q E s := by
  have Jt := S.jat.keep kH
  have hvl : vs.length ≤ 1000 := by rw [hi.length]; omega
  have V : StepV s.heap sp ap vs ns (Str.ofString "told") k1 (lab c) k2 pl bk := ⟨hsp, hp, hi, hvl⟩
  refine law_use PO F X T N hAf hk hf Rr Jt.steps V ?_ hlen hbd (S.term.mono fun _ _ z => z.keeps kH) (S.heads.keep kH) ((S.run c).keeps kH) ((S.hx c).keep kH) ((S.hy c).keep kH) S.dt (S.da c) (S.db c) Sp h
  intro h' sp' k1' k2' b' kp V' A' s' E' Q' kp2 X' T' R' g
  have kp3 : Keep s.heap s'.heap := fun b o e => kp2 b o (kp b o e)
  refine sidesT_spec A' s' st J td rd R sp' ap pl (P c) _ _ vl vr (l c) (r c) _ vs ns (lab c) k1' k2' b' (a c) (b c) E' Q' X' T' R' (Jt.keep kp3) (V'.keep kp2) (hpl.keeps kp3) ?_ (((S.pair c).keeps kH).keeps kp3) ((S.left c).mono fun _ _ z => (z.keeps kH).keeps kp3) ((S.right c).mono fun _ _ z => (z.keeps kH).keeps kp3) (fun D l' r' h' d tk' k hD hl hr => by obtain ⟨la, rfl⟩ := Tv.isRef hl; obtain ⟨ra, rfl⟩ := Tv.isRef hr; exact g D la ra h' d tk' k hD hl hr)
  cases c <;> kernel_rfl
theorem ruleR_use {st J td rd R hds sp ap pl P1 P2 pr pL pR : Addr} {p0 p1 vt vl vr va vb : Value} {t ta tb : Tm} {hvs lvs rvs : List Value} {nh nl nr : Nat}
    {vs : List Value} {ns : List Int} {k1 k2 q1 q2 : Tok} {i nn : Int} {ti tn : Tok} {bk : Bool} (Jt : JAt prog w s.heap st J td rd R p0 p1 vl vr) (ht : Tv (IsTup s.heap) vt t.py) (dt : Drawn3 t) (hh : HeadsV s.heap hds hvs nh t)
    (PO : ProgOk prog) (F : Fr h₀ L s.heap m) (X : (hd.heap_1 w.params).In h₀) (T : Top p loose mean mg mb h₀) (N : News h₀ L s.heap news) (hAf : A.frames = some [env]) (hk : env.scope.kind ≠ .module) (hf : env.frame = some L) (Rr : Rm A 80)
    (hp : IsTup s.heap ap vs.toArray) (hi : IntV vs ns) (hlen : ns.length ≤ 10) (hbd : ∀ i ∈ ns, -1000 ≤ i ∧ i ≤ 1000) (Sp : Spot t i ns)
    (hsp : IsTup s.heap sp #[.ref ap, .str (Str.ofString "rule") k1, .str (Str.ofString "swap") k2, .ref pl, .bool bk]) (hps : PairSrc s.heap pl [.ref P1, .ref P2]) (hpl : IsTup s.heap pl #[.ref P1, .ref P2]) (hp1 : IsTup s.heap P1 #[.str qx q1, va]) (hp2 : IsTup s.heap P2 #[.str qy q2, vb]) (hva : Tv (IsTup s.heap) va ta.py) (hvb : Tv (IsTup s.heap) vb tb.py)
    (ga : ta.Plain ∧ ta.height ≤ 5 ∧ ta.size ≤ 15) (gb : tb.Plain ∧ tb.height ≤ 5 ∧ tb.size ≤ 15)
    (hpr : IsTup s.heap pr #[.ref pL, .ref pR]) (hl : HeadsV s.heap pL lvs nl (.bin ta tb)) (hr : HeadsV s.heap pR rvs nr (.bin tb ta))
    (h : ∀ h' d tk', Fr h₀ L h' m → News h₀ L h' news → Q (.bool true) { s with heap := h', drawn := d, toks := tk' }) :
    wpAny (model prog w) A (call (.ref 346) [.ref st, vt, .ref hds, .int i ti, .ref sp, .ref pr, .int nn tn]) Q E s := by
  obtain ⟨ga1, ga2, ga3⟩ := ga
  obtain ⟨gb1, gb2, gb3⟩ := gb
  have hvl : vs.length ≤ 1000 := by rw [hi.length]; omega
  have V : StepV s.heap sp ap vs ns (Str.ofString "rule") k1 (Str.ofString "swap") k2 pl bk := ⟨hsp, hp, hi, hvl⟩
  refine law_use (tL := .bin ta tb) (tR := .bin tb ta) PO F X T N hAf hk hf Rr Jt.steps V ?_ hlen hbd ht hh hpr hl hr dt ⟨⟨ga1, gb1⟩, by simp only [Tm.height]; omega, by simp only [Tm.size]; omega⟩ ⟨⟨gb1, ga1⟩, by simp only [Tm.height]; omega, by simp only [Tm.size]; omega⟩ Sp h
  intro h' sp' k1' k2' b' kp V' A' s' E' Q' kp2 X' T' R' g
  have kp3 : Keep s.heap s'.heap := fun b o e => kp2 b o (kp b o e)
  have hps' : PairSrc s'.heap pl [.ref P1, .ref P2] := by
    rcases hps with ⟨n, sl, e⟩ | ⟨n, sl, e⟩
    · exact .inl ⟨n, sl, kp3 _ _ e⟩
    · exact .inr ⟨n, sl, kp3 _ _ e⟩
  exact sidesR_spec A' s' st J td rd R sp' ap pl P1 P2 _ _ vl vr va vb _ vs ns k1' k2' q1 q2 b' ta tb E' Q' X' T' R' (Jt.keep kp3) (V'.keep kp2) hps' (hpl.keeps kp3) (hp1.keeps kp3) (hp2.keeps kp3) (hva.mono fun _ _ z => z.keeps kp3) (hvb.mono fun _ _ z => z.keeps kp3) ga1 gb1 (by omega) (by omega) (fun D l' r' h' d tk' k hD hl hr => by obtain ⟨la, rfl⟩ := Tv.isRef hl; obtain ⟨ra, rfl⟩ := Tv.isRef hr; exact g D la ra h' d tk' k hD hl hr)
end
end
/-! LawW -/
section
open PyProof.Rows.LCg
def stN (n : Nat) (b : List Stmt) : List Stmt := (b.drop n).take 1
def forB : List Stmt → List Stmt
  | [.For _ _ b _ _] => b
  | _ => []
/-- what a ledger and its ground hold in whatever heap they are -/
def Live (h₀ : Heap) (L : Addr) (news : List (Addr × Obj)) (P : Heap → Prop) : Prop := ∀ h, Keep h₀ h → News h₀ L h news → P h
theorem Live.get {h₀ h : Heap} {L : Addr} {news l : List (Addr × Obj)} {P : Heap → Prop} {m : Str → Option Value} (x : Live h₀ L news P) (F : Fr h₀ L h m) (N : News h₀ L h l) (k : ∀ p ∈ news, p ∈ l) : P h := x h F.keep fun p hp => N p (k p hp)
theorem Live.up {h₀ : Heap} {L : Addr} {news l : List (Addr × Obj)} {P : Heap → Prop} (x : Live h₀ L news P) (k : ∀ p ∈ news, p ∈ l) : Live h₀ L l P := fun h a N => x h a fun p hp => N p (k p hp)
section
variable {prog : Program} {w : World} {A : Around} {s : Shared} {E : Value → Shared → Prop} {Q : Value → Shared → Prop}
theorem dsubH_use {value slice : PySem.Expr} {d : Addr} {kvs : List (Str × Value)} {x : Str} {t : Tok} {v : Value} (hd : s.heap.DictOf (strKind prog w) d kvs) (hv : valueAt kvs x = some v)
    (h : Q v { s with toks := s.toks + 1 }) (hs : subscripted slice false (.ref d) (.str x t) = operate [.ref d, .str x t] (getItem (.ref d) (.str x t))) : wpAny (model prog w) A (subscriptTail value slice (.ref d) (.str x t)) Q E s :=
  tail_any hd.typeIs slot_dict_getitem.lookup (wpAny_getItem_of (strKind_is _ _ _ _) hd.mapOf hv h) hs
end
theorem run_at {q : Bool → Addr} (c : Bool) : valueAt [(t0, .ref (q false)), (t1, .ref (q true))] (lab c) = some (Value.ref (q c)) := by cases c <;> kernel_rfl
theorem w163 : True := by
  k_with "M eval Name" => ((fail_if_success (have := endOfLawW)); case' FRESH => ((k_here; k_dflt (refine' nameX_L ?F ?v ?_ ?a ?b; (case F => k_asm); (case a => rfl); (case b => rfl); (case v => assumption); k_whole))))
  trivial
theorem w164 : True := by
  k_with "M subscriptTail" => ((fail_if_success (have := endOfLawW)); case' FRESH => ((k_here; (with_reducible show wpAny _ _ (subscriptTail _ _ (Value.ref _) (Value.str (lab _) _)) _ _ _); k_dflt (refine' dsubH_use ?d ?v ?_ ?s; (case d => exact dictOf_keep (LS.runs (by assumption)) (Live.get (by assumption) (by k_asm) (by k_asm) (by k_all))); (case v => exact run_at _); (case s => with_unfolding_all rfl)))))
  trivial
theorem w165 : True := by
  k_with "M call ref" => ((fail_if_success (have := endOfLawW)); case' FRESH => ((k_here; (with_reducible show wpAny _ _ (call (Value.ref 346) _) _ _ _); k_dflt (refine' toldR_use _ _ ?S ?kH ?PO ?F ?X ?T ?N ?fr ?hk ?hf ?R ?hp ?hi ?hl ?hb ?Sp ?sp ?pl ?_; (case S => assumption); (case kH => exact Live.get (by assumption) (by k_asm) (by k_asm) (by k_all)); (case PO => assumption); (case F => k_asm); (case X => k_asm); (case T => k_asm); (case N => k_asm); (case fr => exact Around.frames_deeper (by assumption)); (case hk => exact fun q => by cases q); (case hf => rfl); (case R => exact Rm.deeper (by assumption)); (case hp => exact Live.get (by assumption) (by k_asm) (by k_asm) (by k_all)); (case hi => assumption); (case hl => assumption); (case hb => assumption); (case Sp => assumption); (case sp => exact News.isTup (by k_asm) (by k_mem)); (case pl => exact News.isTup (by k_asm) (by k_mem)); k_whole); intro h' d' tk' F' N')))
  trivial
section
variable {prog : Program} {w : World} {p : Program} {loose : List Str} {mean : ExcName → Option Value} {mg mb : Str → Option Value}
variable {A : Around} {s : Shared} {h₀ H : Heap} {L : Addr} {m : Str → Option Value} {news : List (Addr × Obj)} {E : Value → Shared → Prop}
variable {name qual : Str} {params : Arguments} {body : List Stmt} {scope : Scope} {dV kV doc pm cdv ct oc cd : Value} {an od : Option Addr} {osl : Array (Option Value)} {f : Addr}
set_option maxRecDepth 100000 in
set_option maxHeartbeats 1000000 in
theorem turn1 (hb : (hd.heap_1 w.params).lookup 351 = some ⟨oc, od, .func (fnOf name qual params body scope dV kV doc pm an cdv ct), osl⟩)
    {st J td rd R hds rn ap : Addr} {P q x y : Bool → Addr} {l r : Bool → Value} {a b : Bool → Tm} {xs ys : Bool → List Value} {nx ny : Bool → Nat} {vt vl vr : Value} {t : Tm} {hvs : List Value} {nh : Nat}
    {vs : List Value} {ns : List Int} {k2 : Tok} {i nb : Int} {ti tb : Tok} {Q : Flow → Shared → Prop}
    (c bk : Bool) (S : LS prog w H st J td rd R hds rn P q x y l r a b xs ys nx ny vt vl vr t hvs nh) (kH : Live h₀ L news (Keep H))
    (PO : ProgOk prog) (F : Fr h₀ L s.heap m) (X : (hd.heap_1 w.params).In h₀) (T : Top p loose mean mg mb h₀) (N : News h₀ L s.heap news) (hAf : A.frames = some []) (Rr : Rm A 81)
    (hp : Live h₀ L news fun h => IsTup h ap vs.toArray) (hi : IntV vs ns) (hlen : ns.length ≤ 10) (hbd : ∀ i ∈ ns, -1000 ≤ i ∧ i ≤ 1000) (Sp : Spot t i ns)
    (m1 : m (Str.ofString "steps") = some (.ref st)) (m2 : m (Str.ofString "term") = some vt) (m3 : m (Str.ofString "heads") = some (.ref hds)) (m4 : m (Str.ofString "spot") = some (.int i ti)) (m5 : m (Str.ofString "path") = some (.ref ap)) (m6 : m (Str.ofString "label") = some (.str (lab c) k2)) (m7 : m (Str.ofString "is_back") = some (.bool bk)) (m8 : m (Str.ofString "runs") = some (.ref rn)) (m9 : m (Str.ofString "number") = some (.int nb tb))
    (h : ∀ h' d tk', Fr h₀ L h' m → News h₀ L h' news → Q .next { s with heap := h', drawn := d, toks := tk' }) :
    wpAny (model prog w) (A.deeper (envOfC qual scope L f cd)) (execs (forB (stN 0 (forB (stN 0 (forB (stN 8 body)))))) (envOfC qual scope L f cd)) Q E s := by
  refine' fn_elim hb ?e ?k
  case e => k_dflt k_is
  case k =>
    rintro rfl rfl rfl
    dsimp only [stN, forB, List.drop, List.take]
    refine (?_ : let mM' := _; let aA' := _; wpAny mM' aA' _ _ _ _); intro mM' aA'
    (try k_fold)
    k_steps
    rename Fr _ _ _ _ => F9
    rename News _ _ _ _ => N9
    exact h _ _ _ F9 fun p hp => N9 p (List.mem_of_mem_drop (i := 2) hp)
end
end
theorem endOfLawW : True := trivial
/-! LawW2 -/
section
open PyProof.Rows.LCg
theorem w166 : True := by
  k_with "M eval Name" => ((fail_if_success (have := endOfLawW2)); case' FRESH => ((k_here; k_dflt (refine' nameX_L ?F ?v ?_ ?a ?b; (case F => k_asm); (case a => rfl); (case b => rfl); (case v => assumption); k_whole))))
  trivial
theorem w167 : True := by
  k_with "M subscriptTail" => ((fail_if_success (have := endOfLawW2)); case' FRESH => ((k_here; (with_reducible show wpAny _ _ (subscriptTail _ _ (Value.ref _) (Value.str _ _)) _ _ _); k_dflt ((show wpAny _ _ (subscriptTail _ _ (Value.ref _) (Value.str (lab false) _)) _ _ _); refine' dsubH_use ?d ?v ?_ ?s; (case d => exact dictOf_keep (LS.runs (by assumption)) (Live.get (by assumption) (by k_asm) (by k_asm) (by k_all))); (case v => exact run_at _); (case s => with_unfolding_all rfl)))))
  trivial
theorem w168 : True := by
  k_with "M call ref" => ((fail_if_success (have := endOfLawW2)); case' FRESH => ((k_here; (with_reducible show wpAny _ _ (call (Value.ref 346) _) _ _ _); k_dflt (refine' toldR_use false false ?S ?kH ?PO ?F ?X ?T ?N ?fr ?hk ?hf ?R ?hp ?hi ?hl ?hb ?Sp ?sp ?pl ?_; (case S => assumption); (case kH => exact Live.get (by assumption) (by k_asm) (by k_asm) (by k_all)); (case PO => assumption); (case F => k_asm); (case X => k_asm); (case T => k_asm); (case N => k_asm); (case fr => exact Around.frames_deeper (by assumption)); (case hk => exact fun q => by cases q); (case hf => rfl); (case R => exact Rm.deeper (by assumption)); (case hp => exact Live.get (by assumption) (by k_asm) (by k_asm) (by k_all)); (case hi => assumption); (case hl => assumption); (case hb => assumption); (case Sp => assumption); (case sp => exact News.isTup (by k_asm) (by k_mem)); (case pl => exact News.isTup (by k_asm) (by k_mem)); k_whole); intro h' d' tk' F' N')))
  trivial
section
variable {prog : Program} {w : World} {p : Program} {loose : List Str} {mean : ExcName → Option Value} {mg mb : Str → Option Value}
variable {A : Around} {s : Shared} {h₀ H : Heap} {L : Addr} {m : Str → Option Value} {news : List (Addr × Obj)} {E : Value → Shared → Prop}
variable {name qual : Str} {params : Arguments} {body : List Stmt} {scope : Scope} {dV kV doc pm cdv ct oc cd : Value} {an od : Option Addr} {osl : Array (Option Value)} {f : Addr}
set_option maxRecDepth 100000 in
set_option maxHeartbeats 1000000 in
theorem turn2 (hb : (hd.heap_1 w.params).lookup 351 = some ⟨oc, od, .func (fnOf name qual params body scope dV kV doc pm an cdv ct), osl⟩)
    {st J td rd R hds rn ap : Addr} {P q x y : Bool → Addr} {l r : Bool → Value} {a b : Bool → Tm} {xs ys : Bool → List Value} {nx ny : Bool → Nat} {vt vl vr : Value} {t : Tm} {hvs : List Value} {nh : Nat}
    {vs : List Value} {ns : List Int} {i nb : Int} {ti tb : Tok} {Q : Flow → Shared → Prop}
    (S : LS prog w H st J td rd R hds rn P q x y l r a b xs ys nx ny vt vl vr t hvs nh) (kH : Live h₀ L news (Keep H))
    (PO : ProgOk prog) (F : Fr h₀ L s.heap m) (X : (hd.heap_1 w.params).In h₀) (T : Top p loose mean mg mb h₀) (N : News h₀ L s.heap news) (hAf : A.frames = some []) (Rr : Rm A 81)
    (hp : Live h₀ L news fun h => IsTup h ap vs.toArray) (hi : IntV vs ns) (hlen : ns.length ≤ 10) (hbd : ∀ i ∈ ns, -1000 ≤ i ∧ i ≤ 1000) (Sp : Spot t (-1) ns)
    (m1 : m (Str.ofString "steps") = some (.ref st)) (m2 : m (Str.ofString "term") = some vt) (m3 : m (Str.ofString "heads") = some (.ref hds)) (m4 : m (Str.ofString "spot") = some (.int i ti)) (m5 : m (Str.ofString "bad") = some (.ref ap)) (m8 : m (Str.ofString "runs") = some (.ref rn)) (m9 : m (Str.ofString "number") = some (.int nb tb))
    (h : ∀ h' d tk', Fr h₀ L h' m → News h₀ L h' news → Q .next { s with heap := h', drawn := d, toks := tk' }) :
    wpAny (model prog w) (A.deeper (envOfC qual scope L f cd)) (execs (forB (stN 1 (forB (stN 8 body)))) (envOfC qual scope L f cd)) Q E s := by
  refine' fn_elim hb ?e ?k
  case e => k_dflt k_is
  case k =>
    rintro rfl rfl rfl
    dsimp only [stN, forB, List.drop, List.take]
    refine (?_ : let mM' := _; let aA' := _; wpAny mM' aA' _ _ _ _); intro mM' aA'
    (try k_fold)
    k_steps
    rename Fr _ _ _ _ => F9
    rename News _ _ _ _ => N9
    exact h _ _ _ F9 fun p hp => N9 p (List.mem_of_mem_drop (i := 2) hp)
end
end
theorem endOfLawW2 : True := trivial
/-! LawL -/
section
open PyProof.Rows.LCg
def hdS : List Stmt → Stmt
  | s :: _ => s
  | [] => .Return none ⟨0, 0, 0, 0⟩
/-- the law's names that its loop leaves as they are -/
structure Nm (m : Str → Option Value) (st hds rn ot fd : Addr) (vt : Value) (nb : Int) (tb : Tok) : Prop where
  steps : m (Str.ofString "steps") = some (.ref st)
  term : m (Str.ofString "term") = some vt
  heads : m (Str.ofString "heads") = some (.ref hds)
  runs : m (Str.ofString "runs") = some (.ref rn)
  number : m (Str.ofString "number") = some (.int nb tb)
  other : m (Str.ofString "other") = some (.ref ot)
  feed : m (Str.ofString "feed") = some (.ref fd)
structure Nt (m : Str → Option Value) (i : Int) (ti : Tok) (ap : Addr) (pv : Value) : Prop where
  spot : m (Str.ofString "spot") = some (.int i ti)
  path : m (Str.ofString "path") = some (.ref ap)
  part : m (Str.ofString "part") = some pv
def nmNames : List Str := [Str.ofString "steps", Str.ofString "term", Str.ofString "heads", Str.ofString "runs", Str.ofString "number", Str.ofString "other", Str.ofString "feed"]
def ntNames : List Str := [Str.ofString "spot", Str.ofString "path", Str.ofString "part"]
theorem put_ne {m : Str → Option Value} {n k : Str} {v : Value} {l : List Str} (h : l.contains n = false) (hk : k ∈ l) : (fun y => if y = n then some v else m y) k = m k :=
  if_neg fun e => by subst e; rw [List.contains_iff_mem.mpr hk] at h; cases h
section
variable {m : Str → Option Value} {st hds rn ot fd ap : Addr} {vt pv v : Value} {nb i : Int} {tb ti : Tok} {n : Str}
theorem Nm.put (x : Nm m st hds rn ot fd vt nb tb) (hn : nmNames.contains n = false) : Nm (fun y => if y = n then some v else m y) st hds rn ot fd vt nb tb :=
  ⟨(put_ne hn (.head _)).trans x.steps, (put_ne hn (.tail _ (.head _))).trans x.term, (put_ne hn (.tail _ (.tail _ (.head _)))).trans x.heads, (put_ne hn (.tail _ (.tail _ (.tail _ (.head _))))).trans x.runs,
    (put_ne hn (.tail _ (.tail _ (.tail _ (.tail _ (.head _)))))).trans x.number, (put_ne hn (.tail _ (.tail _ (.tail _ (.tail _ (.tail _ (.head _))))))).trans x.other, (put_ne hn (.tail _ (.tail _ (.tail _ (.tail _ (.tail _ (.tail _ (.head _)))))))).trans x.feed⟩
theorem Nt.put (x : Nt m i ti ap pv) (hn : ntNames.contains n = false) : Nt (fun y => if y = n then some v else m y) i ti ap pv :=
  ⟨(put_ne hn (.head _)).trans x.spot, (put_ne hn (.tail _ (.head _))).trans x.path, (put_ne hn (.tail _ (.tail _ (.head _)))).trans x.part⟩
end
def oneOf (c : Value → Prop) (ps : List (Value → Prop)) : Prop := ∀ p ∈ ps, ∀ v, p v → c v
theorem oneOf.tail {c : Value → Prop} {p : Value → Prop} {ps : List (Value → Prop)} (h : oneOf c (p :: ps)) : oneOf c ps := fun q hq => h q (.tail _ hq)
theorem w169 : True := by
  k_with "M exec For Name Tuple cons nil" => ((fail_if_success (have := endOfLawL)); case' FRESH => ((k_here; k_dflt (refine' for_gen ?_ ?hs ?hE; (case hs => intro _; with_unfolding_all rfl); (case hE => assumption); k_whole))))
  trivial
theorem w170 : True := by
  k_with "M pyIter ref" => ((fail_if_success (have := endOfLawL)); case' FRESH => ((refine Stop.in ?_)))
  trivial
section
variable {prog : Program} {w : World} {p : Program} {loose : List Str} {mean : ExcName → Option Value} {mg mb : Str → Option Value}
variable {A : Around} {s : Shared} {h₀ H : Heap} {L : Addr} {m : Str → Option Value} {news : List (Addr × Obj)} {E : Value → Shared → Prop}
variable {name qual : Str} {params : Arguments} {body : List Stmt} {scope : Scope} {dV kV doc pm cdv ct oc cd : Value} {an od : Option Addr} {osl : Array (Option Value)} {f : Addr}
set_option maxRecDepth 100000 in
set_option maxHeartbeats 1000000 in
theorem loop1 (hb : (hd.heap_1 w.params).lookup 351 = some ⟨oc, od, .func (fnOf name qual params body scope dV kV doc pm an cdv ct), osl⟩)
    {st J td rd R hds rn ot fd ap : Addr} {P q x y : Bool → Addr} {l r : Bool → Value} {a b : Bool → Tm} {xs ys : Bool → List Value} {nx ny : Bool → Nat} {vt vl vr pv : Value} {t : Tm} {hvs : List Value} {nh : Nat}
    {vs : List Value} {ns : List Int} {i nb : Int} {ti tb : Tok} {oC : Obj} {Q : Flow → Shared → Prop} (hE : PassesOwn (model prog w) (A.deeper (envOfC qual scope L f cd)) (envOfC qual scope L f cd) E)
    (S : LS prog w H st J td rd R hds rn P q x y l r a b xs ys nx ny vt vl vr t hvs nh) (kH : Live h₀ L news (Keep H))
    (PO : ProgOk prog) (F : Fr h₀ L s.heap m) (X : (hd.heap_1 w.params).In h₀) (T : Top p loose mean mg mb h₀) (N : News h₀ L s.heap news) (hAf : A.frames = some []) (Rr : Rm A 81)
    (hp : Live h₀ L news fun h => IsTup h ap vs.toArray) (hi : IntV vs ns) (hlen : ns.length ≤ 10) (hbd : ∀ i ∈ ns, -1000 ≤ i ∧ i ≤ 1000) (Sp : Spot t i ns)
    (hC : (L + 1, oC) ∈ news) (hCd : oC.data = .cell (some (.ref td))) (Hm : Nm m st hds rn ot fd vt nb tb) (Ht : Nt m i ti ap pv)
    (h : ∀ h' d tk' m', Fr h₀ L h' m' → News h₀ L h' news → Nm m' st hds rn ot fd vt nb tb → Nt m' i ti ap pv → Q .next { s with heap := h', drawn := d, toks := tk' }) :
    wpAny (model prog w) (A.deeper (envOfC qual scope L f cd)) (exec (hdS (stN 0 (forB (stN 8 body)))) (envOfC qual scope L f cd)) Q E s := by
  refine' fn_elim hb ?e ?k
  case e => k_dflt k_is
  case k =>
    rintro rfl rfl rfl
    have hh : A.handled = none := Rr.hh
    have run := fun {s : Shared} {m : Str → Option Value} {news : List (Addr × Obj)} {k2 : Tok} {Q : Flow → Shared → Prop} (c bk : Bool) (kH : Live h₀ L news (Keep H)) (F : Fr h₀ L s.heap m) (N : News h₀ L s.heap news) (hp : Live h₀ L news fun h => IsTup h ap vs.toArray) (Hm : Nm m st hds rn ot fd vt nb tb) (Ht : Nt m i ti ap pv) (m6 : m (Str.ofString "label") = some (.str (lab c) k2)) (m7 : m (Str.ofString "is_back") = some (.bool bk)) h =>
      turn1 (Q := Q) (E := E) hb (f := f) (cd := cd) c bk S kH PO F X T N hAf Rr hp hi hlen hbd Sp Hm.steps Hm.term Hm.heads Ht.spot Ht.path m6 m7 Hm.runs Hm.number h
    dsimp only [stN, forB, hdS, List.drop, List.take] at run ⊢
    refine for_gen ?_ (fun x => rfl) hE
    refine nameX_C N rfl hC hCd ?_ rfl rfl
    obtain ⟨ep, hat⟩ := S.jat.told.dictAt
    refine iter_dictD S.jat.tds hh F N (hat.at' fun o => kH _ F.keep N _ o) fun I hI => ?_
    refine RestD.ind (fun ps m' n' => oneOf (fun v => ∃ c k, v = .str (lab c) k) ps ∧ n' = news ∧ Nm m' st hds rn ot fd vt nb tb ∧ Nt m' i ti ap pv) ?zero ?succ _ _ _ ⟨?ps, rfl, Hm, Ht⟩
    case ps =>
      intro q hq v hv
      rcases List.mem_cons.mp hq with rfl | hq
      · obtain ⟨k, rfl⟩ := hv; exact ⟨false, k, rfl⟩
      · rw [List.mem_singleton.mp hq] at hv
        obtain ⟨k, rfl⟩ := hv; exact ⟨true, k, rfl⟩
    case zero =>
      rintro m' n' h' d tk' ⟨_, rfl, h1, h2⟩ F' N'
      exact h _ _ _ _ F' N' h1 h2
    case succ =>
      rintro q v ps m' n' oI h' d tk' ⟨hps, rfl, h1, h2⟩ hv hoI F' N'
      obtain ⟨c, k, rfl⟩ := hps _ (.head _) _ hv
      have hps2 := hps.tail
      refine assign_Name (storeX_L F' N' (fun h3 F3 N3 => ?_) rfl rfl)
      have g1 := h1.put (n := Str.ofString "label") (v := .str (lab c) k) rfl
      have g2 := h2.put (n := Str.ofString "label") (v := .str (lab c) k) rfl
      have g3 : (fun y => if y = Str.ofString "label" then some (Value.str (lab c) k) else m' y) (Str.ofString "label") = some (.str (lab c) k) := if_pos rfl
      generalize (fun y => if y = Str.ofString "label" then some (Value.str (lab c) k) else m' y) = m1 at F3 g1 g2 g3
      clear F F' N N' h1 h2 hv hps
      refine (?_ : let mM' := _; let aA' := _; wpAny mM' aA' _ _ _ _); intro mM' aA'
      (try k_fold)
      k_steps
      refine Stop.out ?_
      rename Fr _ _ _ _ => F4
      rename News _ _ _ _ => N4
      refine iter_tupD hh F4 N4 (News.isTup N4 (.head _)) fun I2 hI2 => ?_
      generalize hnn : ((_ : Addr × Obj) :: (I, oI) :: n') = nn at N4 hI2 ⊢
      have hd1 : ∀ p ∈ (I, oI) :: n', p ∈ nn := fun p hp => hnn ▸ .tail _ hp
      have hd2 : ∀ p ∈ n', p ∈ nn := fun p hp => hd1 p (.tail _ hp)
      refine RestD.ind (fun ps m2 n2 => oneOf (fun v => ∃ bk, v = .bool bk) ps ∧ n2 = nn ∧ Nm m2 st hds rn ot fd vt nb tb ∧ Nt m2 i ti ap pv ∧ m2 (Str.ofString "label") = some (.str (lab c) k)) ?zero2 ?succ2 _ _ _ ⟨?ps2, rfl, g1, g2, g3⟩
      case ps2 =>
        intro q hq v hv
        rcases List.mem_cons.mp hq with rfl | hq
        · exact ⟨false, hv⟩
        · rw [List.mem_singleton.mp hq] at hv
          exact ⟨true, hv⟩
      case zero2 =>
        rintro m2 n2 h5 d5 tk5 ⟨_, rfl, k1, k2, _⟩ F5 N5
        refine wpAny_execs_nil ?_
        exact UEndD.intro F5 (fun q hq => N5 q (hd1 q hq)) .here (fun q hq => Nat.ne_of_lt (hI q hq)) (hat.at' fun o => kH _ F5.keep (fun q hq => N5 q (hd2 q hq)) _ o) ⟨hps2, rfl, k1, k2⟩
      case succ2 =>
        rintro q v ps m2 n2 oI2 h5 d5 tk5 ⟨hps, rfl, k1, k2, k3⟩ hv hoI2 F5 N5
        obtain ⟨bk, rfl⟩ := hps _ (.head _) _ hv
        refine assign_Name (storeX_L F5 N5 (fun h6 F6 N6 => ?_) rfl rfl)
        have hd3 : ∀ p ∈ n', p ∈ (I2, oI2) :: n2 := fun p hp => .tail _ (hd2 p hp)
        refine run c bk (kH.up hd3) F6 N6 (hp.up hd3) (k1.put rfl) (k2.put rfl) ((put_ne (l := [Str.ofString "label"]) rfl (.head _)).trans k3) (if_pos rfl) fun h7 d7 tk7 F7 N7 => ?_
        refine UEndD.intro F7 N7 .here (fun q hq => Nat.ne_of_lt (hI2 q hq)) ?kt ⟨hps.tail, rfl, k1.put rfl, k2.put rfl, (put_ne (l := [Str.ofString "label"]) rfl (.head _)).trans k3⟩
        exact News.isTup N7 (.tail _ (by rw [← hnn]; exact .head _))
end
end
theorem endOfLawL : True := trivial
/-! LawL2 -/
section
open PyProof.Rows.LCg
theorem Tp.live {h₀ : Heap} {L : Addr} {tl nn : List (Addr × Obj)} {a : Addr} {vs : Array Value} (x : Tp h₀ tl a vs) (k : ∀ p ∈ tl, p ∈ nn) : Live h₀ L nn fun h => IsTup h a vs := by
  intro h kp N
  rcases x with x | ⟨o, hm, r⟩
  · exact x.keeps kp
  · exact ⟨o, (N _ (k _ hm)).1, r⟩
theorem w171 : True := by
  k_with "M exec For Name Tuple cons nil" => ((fail_if_success (have := endOfLawL2)); case' FRESH => ((k_here; k_dflt (refine' for_gen ?_ ?hs ?hE; (case hs => intro _; with_unfolding_all rfl); (case hE => assumption); k_whole))))
  trivial
theorem w172 : True := by
  k_with "M pyIter ref" => ((fail_if_success (have := endOfLawL2)); case' FRESH => ((refine Stop.in ?_)))
  trivial
theorem w173 : True := by
  k_with "M eval Name" => ((fail_if_success (have := endOfLawL2)); case' FRESH => ((k_here; k_dflt (refine' nameX_L ?F ?v ?_ ?a ?b; (case F => k_asm); (case a => rfl); (case b => rfl); (case v => assumption); k_whole))))
  trivial
theorem w174 : True := by
  k_with "M call builtin:len" => ((fail_if_success (have := endOfLawL2)); case' FRESH => ((k_here; (with_reducible show wpAny _ _ (call (Value.builtin _) [Value.ref _]) _ _ _); k_dflt (refine' len_tuple ?l ?z ?_; (case l => exact Live.get (P := fun h => IsTup h _ _) (by assumption) (by k_asm) (by k_asm) (by k_all)); (case z => assumption)))))
  trivial
theorem w175 : True := by
  k_with "M binaryOp Add ref ref" => ((fail_if_success (have := endOfLawL2)); case' FRESH => ((k_here; (with_reducible show wpAny _ _ (binaryOp _ (Value.ref _) (Value.ref _)) _ _ _); k_dflt (refine' tup_add ?F ?N ?a ?b ?z ?_; (case F => k_asm); (case N => k_asm); (case a => exact Live.get (P := fun h => IsTup h _ _) (by assumption) (by k_asm) (by k_asm) (by k_all)); (case b => exact News.isTup (by k_asm) (by k_mem)); (case z => (show _ + 1 ≤ 1000); omega); k_whole); intro D' h' tl' F' N' hA' hD')))
  trivial
section
variable {prog : Program} {w : World} {p : Program} {loose : List Str} {mean : ExcName → Option Value} {mg mb : Str → Option Value}
variable {A : Around} {s : Shared} {h₀ H : Heap} {L : Addr} {m : Str → Option Value} {news : List (Addr × Obj)} {E : Value → Shared → Prop}
variable {name qual : Str} {params : Arguments} {body : List Stmt} {scope : Scope} {dV kV doc pm cdv ct oc cd : Value} {an od : Option Addr} {osl : Array (Option Value)} {f : Addr}
set_option maxRecDepth 100000 in
set_option maxHeartbeats 1000000 in
theorem loop2 (hb : (hd.heap_1 w.params).lookup 351 = some ⟨oc, od, .func (fnOf name qual params body scope dV kV doc pm an cdv ct), osl⟩)
    {st J td rd R hds rn ot fd ap pa : Addr} {P q x y : Bool → Addr} {l r : Bool → Value} {a b : Bool → Tm} {xs ys : Bool → List Value} {nx ny : Bool → Nat} {vt vl vr : Value} {t : Tm} {hvs : List Value} {nh : Nat}
    {vs : List Value} {ns : List Int} {i nb : Int} {ti tb : Tok} {pvs : Array Value} {Q : Flow → Shared → Prop} (hE : PassesOwn (model prog w) (A.deeper (envOfC qual scope L f cd)) (envOfC qual scope L f cd) E)
    (S : LS prog w H st J td rd R hds rn P q x y l r a b xs ys nx ny vt vl vr t hvs nh) (kH : Live h₀ L news (Keep H))
    (PO : ProgOk prog) (F : Fr h₀ L s.heap m) (X : (hd.heap_1 w.params).In h₀) (T : Top p loose mean mg mb h₀) (N : News h₀ L s.heap news) (hAf : A.frames = some []) (Rr : Rm A 81)
    (hp : Live h₀ L news fun h => IsTup h ap vs.toArray) (hi : IntV vs ns) (hlen : ns.length ≤ 9) (hbd : ∀ i ∈ ns, -1000 ≤ i ∧ i ≤ 1000)
    (hpt : Live h₀ L news fun h => IsTup h pa pvs) (hpz : (pvs.size : Int) < 2 ^ 63) (hpz2 : pvs.size ≤ 100) (S1 : Spot t (-1) (ns ++ [(pvs.size : Int) - 1])) (S2 : Spot t (-1) (ns ++ [-2]))
    (Hm : Nm m st hds rn ot fd vt nb tb) (Ht : Nt m i ti ap (.ref pa))
    (h : ∀ h' d tk' m', Fr h₀ L h' m' → News h₀ L h' news → Nm m' st hds rn ot fd vt nb tb → Nt m' i ti ap (.ref pa) → Q .next { s with heap := h', drawn := d, toks := tk' }) :
    wpAny (model prog w) (A.deeper (envOfC qual scope L f cd)) (exec (hdS (stN 1 (forB (stN 8 body)))) (envOfC qual scope L f cd)) Q E s := by
  refine' fn_elim hb ?e ?k
  case e => k_dflt k_is
  case k =>
    rintro rfl rfl rfl
    have hh : A.handled = none := Rr.hh
    have hvl : vs.length ≤ 9 := by rw [hi.length]; exact hlen
    have run := fun {s : Shared} {m : Str → Option Value} {news : List (Addr × Obj)} {bp : Addr} {bs : List Value} {zs : List Int} {Q : Flow → Shared → Prop} (kH : Live h₀ L news (Keep H)) (F : Fr h₀ L s.heap m) (N : News h₀ L s.heap news) (hp : Live h₀ L news fun h => IsTup h bp bs.toArray) (hi : IntV bs zs) (hlen : zs.length ≤ 10) (hbd : ∀ i ∈ zs, -1000 ≤ i ∧ i ≤ 1000) (Sp : Spot t (-1) zs) (Hm : Nm m st hds rn ot fd vt nb tb) (Ht : Nt m i ti ap (.ref pa)) (m5 : m (Str.ofString "bad") = some (.ref bp)) h =>
      turn2 (Q := Q) (E := E) hb (f := f) (cd := cd) S kH PO F X T N hAf Rr hp hi hlen hbd Sp Hm.steps Hm.term Hm.heads Ht.spot m5 Hm.runs Hm.number h
    have m1 := Ht.path
    have m2 := Ht.part
    dsimp only [stN, forB, hdS, List.drop, List.take] at run ⊢
    refine (?_ : let mM' := _; let aA' := _; wpAny mM' aA' _ _ _ _); intro mM' aA'
    (try k_fold)
    k_steps
    refine Stop.out ?_
    rename Fr _ _ _ _ => F4
    rename News _ _ _ _ => N4
    refine iter_tupD hh F4 N4 (News.isTup N4 (.head _)) fun I hI => ?_
    generalize hnn : ((_ : Addr × Obj) :: _) = nn at N4 hI ⊢
    rename Tp _ _ _ _ => hB2
    have L2 := Tp.live (L := L) (nn := nn) hB2 (by rw [← hnn]; k_all)
    clear hB2
    rename Tp _ _ _ _ => hB1
    have L1 := Tp.live (L := L) (nn := nn) hB1 (by rw [← hnn]; k_all)
    clear hB1
    have hd : ∀ p ∈ news, p ∈ nn := by rw [← hnn]; k_all
    refine RestD.ind (fun ps m2 n2 => oneOf (fun v => ∃ bp z k, v = .ref bp ∧ (Live h₀ L nn fun h => IsTup h bp (vs ++ [Value.int z k]).toArray) ∧ Spot t (-1) (ns ++ [z]) ∧ -1000 ≤ z ∧ z ≤ 1000) ps ∧ n2 = nn ∧ Nm m2 st hds rn ot fd vt nb tb ∧ Nt m2 i ti ap (.ref pa)) ?zero2 ?succ2 _ _ _ ⟨?ps2, rfl, Hm, Ht⟩
    case ps2 =>
      intro q hq v hv
      rcases List.mem_cons.mp hq with rfl | hq
      · exact ⟨_, _, _, hv, L1, S1, by omega, by omega⟩
      · rw [List.mem_singleton.mp hq] at hv
        exact ⟨_, _, _, hv, L2, S2, by omega, by omega⟩
    case zero2 =>
      rintro m2 n2 h5 d5 tk5 ⟨_, rfl, k1, k2⟩ F5 N5
      exact h _ _ _ _ F5 (fun q hq => N5 q (hd q hq)) k1 k2
    case succ2 =>
      rintro q v ps m2 n2 oI2 h5 d5 tk5 ⟨hps, rfl, k1, k2⟩ hv hoI2 F5 N5
      obtain ⟨bp, z, k, rfl, hl, hs, hz1, hz2⟩ := hps _ (.head _) _ hv
      refine assign_Name (storeX_L F5 N5 (fun h6 F6 N6 => ?_) rfl rfl)
      have hd3 : ∀ p ∈ news, p ∈ (I, oI2) :: n2 := fun p hp => .tail _ (hd p hp)
      refine run (kH.up hd3) F6 N6 (hl.up fun p hp => .tail _ hp) (hi.append (.cons .nil)) (by rw [List.length_append]; exact Nat.succ_le_succ hlen) (fun j hj => ?_) hs (k1.put rfl) (k2.put rfl) (if_pos rfl) fun h7 d7 tk7 F7 N7 => ?_
      · rcases List.mem_append.mp hj with hj | hj
        · exact hbd j hj
        · rw [List.mem_singleton.mp hj]; exact ⟨hz1, hz2⟩
      · refine UEndD.intro F7 N7 .here (fun q hq => Nat.ne_of_lt (hI q hq)) ?kt ⟨hps.tail, rfl, k1.put rfl, k2.put rfl⟩
        exact News.isTup N7 (.tail _ (by rw [← hnn]; exact .head _))
end
end
theorem endOfLawL2 : True := trivial
/-! LawA -/
section
open PyProof.Rows.LCg
theorem seq_head {x : Value} {l : List Value} : seqIndex? 0 (x :: l).length = some 0 := by
  simp [seqIndex?]
section
variable {prog : Program} {w : World} {A : Around} {s : Shared} {E : Value → Shared → Prop} {Q : Value → Shared → Prop}
theorem eqstr_no {x y : Str} {t u : Tok} (hn : (x == y) = false) (h : Q (.bool false) s) : wpAny (model prog w) A (compareOp .Eq (.str x t) (.str y u)) Q E s := eq_str (by rw [hn]; exact h)
end
theorem w176 : True := by
  k_with "M eval Name" => ((fail_if_success (have := endOfLawA)); case' FRESH => ((k_here; k_dflt (refine' nameX_L ?F ?v ?_ ?a ?b; (case F => k_asm); (case a => rfl); (case b => rfl); (case v => assumption); k_whole))))
  trivial
theorem w177 : True := by
  k_with "M compareOp Eq str str" => ((fail_if_success (have := endOfLawA)); case' FRESH => ((k_here; refine eqstr_no (by assumption) ?_)))
  trivial
theorem w178 : True := by
  k_with "M subscriptTail" => ((fail_if_success (have := endOfLawA)); case' FRESH => ((k_here; (with_reducible show wpAny _ _ (subscriptTail _ _ (Value.ref _) (Value.int _ _)) _ _ _); k_dflt (refine' item_tupleT ?k1 ?k2 ?k3 ?k4 ?k5 ?_ ?k6; (case k1 => exact Fr.tupP (by assumption) (by k_asm) (by k_asm) (by k_all)); (case k2 => decide); (case k3 => decide); (case k4 => exact seq_head); (case k5 => rfl); (case k6 => with_unfolding_all rfl); k_whole))))
  trivial
theorem w179 : True := by
  k_with "M call ref" => ((fail_if_success (have := endOfLawA)); case' FRESH => ((k_here; (with_reducible show wpAny _ _ (call (Value.ref 320) _ _) _ _ _); k_dflt (refine' pick_use ?F ?X ?T ?N ?U ?hdo ?hr ?hi ?R ?h0 ?h1 ?hm ?hm' ?hlen ?_; (case F => k_asm); (case X => k_asm); (case T => k_asm); (case N => k_asm); (case U => k_updF); (case hdo => assumption); (case hr => exact Live.get (P := fun h => h.IsList _ _) (by assumption) (by k_asm) (by k_asm) (by k_all)); (case hi => k_asm); (case R => exact Rm.le (Rm.deeper (by assumption)) (by omega)); (case h0 => omega); (case h1 => omega); (case hm => decide); (case hm' => decide); (case hlen => assumption); k_whole); intro k' tv' h' o' tk' hk1' hk2' hf' F' N' _; (try dsimp only at N'))))
  trivial
section
variable {prog : Program} {w : World} {p : Program} {loose : List Str} {mean : ExcName → Option Value} {mg mb : Str → Option Value}
variable {A : Around} {s : Shared} {h₀ H : Heap} {L : Addr} {m : Str → Option Value} {nw : List (Addr × Obj)} {E : Value → Shared → Prop}
variable {name qual : Str} {params : Arguments} {body : List Stmt} {scope : Scope} {dV kV doc pm cdv ct oc cd : Value} {an od : Option Addr} {osl : Array (Option Value)} {f : Addr}
set_option maxRecDepth 100000 in
set_option maxHeartbeats 1000000 in
theorem asg3n (hb : (hd.heap_1 w.params).lookup 351 = some ⟨oc, od, .func (fnOf name qual params body scope dV kV doc pm an cdv ct), osl⟩)
    {st hds rn ot fd ap pa : Addr} {vt o1 o2 : Value} {i nb : Int} {ti tb k : Tok} {op : Str} {kv : List Value} {o : Obj} {Q : Flow → Shared → Prop}
    (F : Fr h₀ L s.heap m) (X : (hd.heap_1 w.params).In h₀) (T : Top p loose mean mg mb h₀) (N : News h₀ L s.heap ((fd, o) :: nw)) (Rr : Rm A 81)
    (hpt : Tp h₀ nw pa (Value.str op k :: kv).toArray) (hop : (op == Str.ofString "g") = false) (hot : Tp h₀ nw ot #[o1, o2])
    (Hm : Nm m st hds rn ot fd vt nb tb) (Ht : Nt m i ti ap (.ref pa))
    (h : ∀ h' tk' m', Fr h₀ L h' m' → News h₀ L h' ((fd, o) :: nw) → Nm m' st hds rn ot fd vt nb tb → Nt m' i ti ap (.ref pa) → m' (Str.ofString "one") = some o1 → m' (Str.ofString "late") = some o2 → Q .next { s with heap := h', toks := tk' }) :
    wpAny (model prog w) (A.deeper (envOfC qual scope L f cd)) (exec (hdS (stN 2 (forB (stN 8 body)))) (envOfC qual scope L f cd)) Q E s := by
  obtain ⟨hA, dA, fA, gA, uA⟩ := A
  obtain rfl : hA = none := Rr.hh
  refine' fn_elim hb ?e ?k
  case e => k_dflt k_is
  case k =>
    rintro rfl rfl rfl
    have m1 := Ht.part
    have m2 := Hm.other
    dsimp only [stN, forB, hdS, List.drop, List.take]
    refine (?_ : let mM' := _; let aA' := _; wpAny mM' aA' _ _ _ _); intro mM' aA'
    (try k_fold)
    k_steps
    rename Fr _ _ _ _ => F9
    rename News _ _ _ _ => N9
    exact h _ _ _ F9 N9 ((Hm.put rfl).put rfl) ((Ht.put rfl).put rfl) ((if_neg (by decide)).trans (if_pos rfl)) (if_pos rfl)
set_option maxRecDepth 100000 in
set_option maxHeartbeats 1000000 in
theorem asg3g (hb : (hd.heap_1 w.params).lookup 351 = some ⟨oc, od, .func (fnOf name qual params body scope dV kV doc pm an cdv ct), osl⟩)
    {st hds rn ot fd ap pa row : Addr} {vt o1 o2 lv rv : Value} {i nb at' : Int} {ti tb k : Tok} {o : Obj} {rvs : List Value} {rns : List Int} {Q : Flow → Shared → Prop}
    (F : Fr h₀ L s.heap m) (X : (hd.heap_1 w.params).In h₀) (T : Top p loose mean mg mb h₀) (N : News h₀ L s.heap ((fd, o) :: nw)) (Rr : Rm A 81)
    (hdo : FeedObj prog w row at' o) (hr : Live h₀ L nw fun h => h.IsList row rvs.toArray) (hri : IntsAre rvs rns) (hrl : rns.length ≤ 40) (ha0 : 0 ≤ at') (ha1 : at' < 900) (hne : ∀ q ∈ nw, q.1 ≠ fd)
    (hpt : Tp h₀ nw pa #[Value.str (Str.ofString "g") k, lv, rv]) (hot : Tp h₀ nw ot #[o1, o2])
    (Hm : Nm m st hds rn ot fd vt nb tb) (Ht : Nt m i ti ap (.ref pa))
    (h : ∀ h' tk' m' o' v1 v2, ((v1 = lv ∧ v2 = rv) ∨ (v1 = o1 ∧ v2 = o2)) → FeedObj prog w row (at' + 1) o' → Fr h₀ L h' m' → News h₀ L h' ((fd, o') :: nw) → Nm m' st hds rn ot fd vt nb tb → Nt m' i ti ap (.ref pa) → m' (Str.ofString "one") = some v1 → m' (Str.ofString "late") = some v2 → Q .next { s with heap := h', toks := tk' }) :
    wpAny (model prog w) (A.deeper (envOfC qual scope L f cd)) (exec (hdS (stN 2 (forB (stN 8 body)))) (envOfC qual scope L f cd)) Q E s := by
  obtain ⟨hA, dA, fA, gA, uA⟩ := A
  obtain rfl : hA = none := Rr.hh
  refine' fn_elim hb ?e ?k
  case e => k_dflt k_is
  case k =>
    rintro rfl rfl rfl
    have m1 := Ht.part
    have m2 := Hm.other
    have m3 := Hm.feed
    dsimp only [stN, forB, hdS, List.drop, List.take]
    refine (?_ : let mM' := _; let aA' := _; wpAny mM' aA' _ _ _ _); intro mM' aA'
    (try k_fold)
    k_steps
    · rename Fr _ _ _ _ => F9
      rename News _ _ _ _ => N9
      exact h _ _ _ _ _ _ (.inl ⟨rfl, rfl⟩) (by assumption) F9 (fun q hq => N9 q (.tail _ hq)) ((Hm.put rfl).put rfl) ((Ht.put rfl).put rfl) ((if_neg (by decide)).trans (if_pos rfl)) (if_pos rfl)
    · rename Fr _ _ _ _ => F9
      rename News _ _ _ _ => N9
      exact h _ _ _ _ _ _ (.inr ⟨rfl, rfl⟩) (by assumption) F9 N9 ((Hm.put rfl).put rfl) ((Ht.put rfl).put rfl) ((if_neg (by decide)).trans (if_pos rfl)) (if_pos rfl)
end
end
theorem endOfLawA : True := trivial
/-! LawF -/
section
open PyProof.Rows.LCg
theorem HeadsV.of {h₀ h : Heap} {L l : Addr} {m : Str → Option Value} {news tl : List (Addr × Obj)} {vs : List Value} {n : Nat} {t : Tm} (F : Fr h₀ L h m) (N : News h₀ L h news) (hm : (l, PySem.W.listOf vs.toArray n) ∈ news) (hd : TvL (Tp h₀ tl) vs ((headL t).map itemPy)) (k : ∀ p ∈ tl, p ∈ news) : HeadsV h l vs n t :=
  ⟨(N _ hm).1, TvL.at hd F N k, by rw [hd.length, List.length_map, headL_length]⟩
/-- two small terms for the places of the rule -/
structure Small2 (u v : Tm) : Prop where
  a : u.Plain ∧ u.height ≤ 5 ∧ u.size ≤ 15
  b : v.Plain ∧ v.height ≤ 5 ∧ v.size ≤ 15
theorem Small2.few {u v : Tm} (x : Small2 u v) : (Tm.bin u v).size ≤ 100 := by have := x.a; have := x.b; simp only [Tm.size]; omega
theorem Small2.low {u v : Tm} (x : Small2 u v) : (Tm.bin u v).height ≤ 6 := by have := x.a; have := x.b; simp only [Tm.height]; omega
theorem Small2.swap {u v : Tm} (x : Small2 u v) : Small2 v u := ⟨x.b, x.a⟩
theorem w180 : True := by
  k_with "M eval Name" => ((fail_if_success (have := endOfLawF)); case' FRESH => ((k_here; k_dflt (refine' nameX_L ?F ?v ?_ ?a ?b; (case F => k_asm); (case a => rfl); (case b => rfl); (case v => assumption); k_whole))))
  trivial
theorem w181 : True := by
  k_with "M call ref" => ((fail_if_success (have := endOfLawF)); case' FRESH => ((k_here; (with_reducible show wpAny _ _ (call (Value.ref 320) _ _) _ _ _); k_dflt (refine' pick_use ?F ?X ?T ?N ?U ?hdo ?hr ?hi ?R ?h0 ?h1 ?hm ?hm' ?hlen ?_; (case F => k_asm); (case X => k_asm); (case T => k_asm); (case N => k_asm); (case U => k_updF); (case hdo => assumption); (case hr => exact Live.get (P := fun h => h.IsList _ _) (by assumption) (by k_asm) (by k_asm) (by k_all)); (case hi => k_asm); (case R => exact Rm.le (Rm.deeper (by assumption)) (by omega)); (case h0 => omega); (case h1 => omega); (case hm => decide); (case hm' => decide); (case hlen => assumption); k_whole); intro k' tv' h' o' tk' hk1' hk2' hf' F' N' _; (try dsimp only at N'))))
  trivial
theorem w182 : True := by
  k_with "M call ref" => ((fail_if_success (have := endOfLawF)); case' FRESH => ((k_here; (with_reducible show wpAny _ _ (call (Value.ref 334) _) _ _ _); k_dflt (refine' headsT_use (t := Tm.bin _ _) ?F ?X ?T ?N ?R ?hz ?hv ?_; (case F => k_asm); (case X => k_asm); (case T => k_asm); (case N => k_asm); (case hv => exact Tv.three (News.isTup (by k_asm) (by k_mem)) (.str _ _) (Tv.at (by assumption) (by k_asm) (by k_asm) (by k_all)) (Tv.at (by assumption) (by k_asm) (by k_asm) (by k_all))); (case hz => exact Small2.few (by assumption)); (case R => exact Rm.le (Rm.deeper (by assumption)) (Nat.le_trans (Nat.succ_le_succ (Small2.low (by assumption))) (by omega))); k_whole); intro l' h' tk' vs' n' tl' F' N' l1 hA' hd'; (try simp only [List.cons_append, List.nil_append] at N'))))
  trivial
theorem w183 : True := by
  k_with "M call ref" => ((fail_if_success (have := endOfLawF)); case' FRESH => ((k_here; (with_reducible show wpAny _ _ (call (Value.ref 346) _) _ _ _); refine Stop.in ?_)))
  trivial
section
variable {prog : Program} {w : World} {p : Program} {loose : List Str} {mean : ExcName → Option Value} {mg mb : Str → Option Value}
variable {A : Around} {s : Shared} {h₀ H : Heap} {L : Addr} {m : Str → Option Value} {nw : List (Addr × Obj)} {E : Value → Shared → Prop}
variable {name qual : Str} {params : Arguments} {body : List Stmt} {scope : Scope} {dV kV doc pm cdv ct oc cd : Value} {an od : Option Addr} {osl : Array (Option Value)} {f : Addr}
set_option maxRecDepth 100000 in
set_option maxHeartbeats 1000000 in
theorem fin3 (hb : (hd.heap_1 w.params).lookup 351 = some ⟨oc, od, .func (fnOf name qual params body scope dV kV doc pm an cdv ct), osl⟩)
    {st J td rd R hds rn ot fd ap row : Addr} {P q x y : Bool → Addr} {l r : Bool → Value} {a b : Bool → Tm} {xs ys : Bool → List Value} {nx ny : Bool → Nat} {vt vl vr pv v1 v2 : Value} {t u1 u2 : Tm} {hvs : List Value} {nh : Nat}
    {vs : List Value} {ns : List Int} {i nb at' : Int} {ti tb : Tok} {o : Obj} {rvs : List Value} {rns : List Int} {Q : Flow → Shared → Prop}
    (S : LS prog w H st J td rd R hds rn P q x y l r a b xs ys nx ny vt vl vr t hvs nh) (kH : Live h₀ L nw (Keep H))
    (PO : ProgOk prog) (F : Fr h₀ L s.heap m) (X : (hd.heap_1 w.params).In h₀) (T : Top p loose mean mg mb h₀) (N : News h₀ L s.heap ((fd, o) :: nw)) (hAf : A.frames = some []) (Rr : Rm A 81)
    (hdo : FeedObj prog w row at' o) (hr : Live h₀ L nw fun h => h.IsList row rvs.toArray) (hri : IntsAre rvs rns) (hrl : rns.length ≤ 40) (ha0 : 0 ≤ at') (ha1 : at' < 900) (hne : ∀ q ∈ nw, q.1 ≠ fd)
    (hp : Live h₀ L nw fun h => IsTup h ap vs.toArray) (hi : IntV vs ns) (hlen : ns.length ≤ 10) (hbd : ∀ i ∈ ns, -1000 ≤ i ∧ i ≤ 1000) (Sp : Spot t i ns)
    (hv1 : Tv (Tp h₀ nw) v1 u1.py) (hv2 : Tv (Tp h₀ nw) v2 u2.py) (S12 : Small2 u1 u2)
    (Hm : Nm m st hds rn ot fd vt nb tb) (Ht : Nt m i ti ap pv) (m7 : m (Str.ofString "one") = some v1) (m8 : m (Str.ofString "late") = some v2)
    (h : ∀ h' d tk' m' o', FeedObj prog w row (at' + 1) o' → Fr h₀ L h' m' → News h₀ L h' ((fd, o') :: nw) → Nm m' st hds rn ot fd vt nb tb → Q .next { s with heap := h', drawn := d, toks := tk' }) :
    wpAny (model prog w) (A.deeper (envOfC qual scope L f cd)) (execs ((forB (stN 8 body)).drop 3) (envOfC qual scope L f cd)) Q E s := by
  obtain ⟨hA, dA, fA, gA, uA⟩ := A
  obtain rfl : hA = none := Rr.hh
  obtain ⟨a1, rfl⟩ := Tv.isRef hv1
  obtain ⟨a2, rfl⟩ := Tv.isRef hv2
  have S21 := S12.swap
  refine' fn_elim hb ?e ?k
  case e => k_dflt k_is
  case k =>
    rintro rfl rfl rfl
    have m1 := Hm.steps
    have m2 := Hm.term
    have m3 := Hm.heads
    have m4 := Ht.spot
    have m5 := Ht.path
    have m6 := Hm.feed
    have m9 := Hm.number
    dsimp only [stN, forB, hdS, List.drop, List.take]
    refine (?_ : let mM' := _; let aA' := _; wpAny mM' aA' _ _ _ _); intro mM' aA'
    (try k_fold)
    k_steps
    refine Stop.out ?_
    rename Fr _ _ _ _ => F9
    rename News _ _ _ _ => N9
    have k9 := kH.get F9 N9 (by k_all)
    refine' ruleR_use (S.jat.keep k9) (S.term.mono fun _ _ z => z.keeps k9) S.dt (S.heads.keep k9) PO F9 X T N9 (Around.frames_deeper hAf) (fun q => by cases q) rfl (Rm.deeper Rr) (hp.get F9 N9 (by k_all)) hi hlen hbd Sp ?sp ?ps ?pl ?p1 ?p2 ?va ?vb S12.a S12.b ?pr ?hl ?hr fun h8 d8 tk8 F8 N8 => ?_
    case sp => exact News.isTup N9 (by k_mem)
    case ps => exact .inl ⟨_, _, News.at N9 (by k_mem)⟩
    case pl => exact News.isTup N9 (by k_mem)
    case p1 => exact News.isTup N9 (by k_mem)
    case p2 => exact News.isTup N9 (by k_mem)
    case va => exact Tv.at hv1 F9 N9 (by k_all)
    case vb => exact Tv.at hv2 F9 N9 (by k_all)
    case pr => exact News.isTup N9 (by k_mem)
    case hl => exact HeadsV.of F9 N9 (by k_mem) (by assumption) (by k_all)
    case hr => exact HeadsV.of F9 N9 (by k_mem) (by assumption) (by k_all)
    have N7 : News h₀ L h8 ((fd, _) :: nw) := fun q hq => N8 q (by revert q hq; k_all)
    clear F9 N9 N8 k9
    k_steps
    rename Fr _ _ _ _ => F9
    exact h _ _ _ _ _ (by assumption) F9 N7 ((Hm.put rfl).put rfl)
end
end
theorem endOfLawF : True := trivial
/-! LawO -/
section
open PyProof.Rows.LCg
theorem sub_append : ∀ (t : Tm) (ns ms : List Int), sub t (ns ++ ms) = (sub t ns).bind fun u => sub u ms
  | t, [], ms => by cases t <;> rfl
  | .leaf x, i :: ns, ms => rfl
  | .un t, i :: ns, ms => by
    simp only [List.cons_append, sub]
    split
    · exact sub_append t ns ms
    · rfl
  | .bin a b, i :: ns, ms => by
    simp only [List.cons_append, sub]
    split
    · exact sub_append a ns ms
    · split
      · exact sub_append b ns ms
      · rfl
theorem sub_off {t x : Tm} {ns : List Int} {z : Int} (h : sub t ns = some x ∨ sub t ns = none) (hz : z < 0 ∨ z = (kidsOf x).length) : sub t (ns ++ [z]) = none := by
  rw [sub_append]
  rcases h with h | h <;> rw [h]
  · simp only [Option.bind_some]
    rw [sub_cons]
    split
    · rcases hz with hz | hz
      · omega
      · subst hz; simp
    · rfl
  · rfl
structure Low (x : Tm) : Prop where
  p : x.Plain ∧ x.height ≤ 5 ∧ x.size ≤ 15
theorem Low.kids {a b : Tm} (h : Low (.bin a b)) : Small2 a b := by
  obtain ⟨⟨p1, p2⟩, q, r⟩ := h.p
  simp only [Tm.height, Tm.size] at q r
  exact ⟨⟨p1, by omega, by omega⟩, ⟨p2, by omega, by omega⟩⟩
theorem un_op : (Str.ofString "f" == Str.ofString "g") = false := by decide +kernel
theorem leaf_op {x : Tm} (h : x.Plain) (hx : ∀ a b, x ≠ .bin a b) : (opOf x == Str.ofString "g") = false := by
  cases x with
  | leaf c => rcases h with h | h <;> (subst h; decide +kernel)
  | un t => exact un_op
  | bin a b => exact absurd rfl (hx a b)
section
variable {prog : Program} {w : World} {p : Program} {loose : List Str} {mean : ExcName → Option Value} {mg mb : Str → Option Value}
variable {A : Around} {s : Shared} {h₀ H : Heap} {L : Addr} {m : Str → Option Value} {nw : List (Addr × Obj)} {E : Value → Shared → Prop}
variable {name qual : Str} {params : Arguments} {body : List Stmt} {scope : Scope} {dV kV doc pm cdv ct oc cd : Value} {an od : Option Addr} {osl : Array (Option Value)} {f : Addr}
set_option maxRecDepth 100000 in
set_option maxHeartbeats 1000000 in
theorem turnO (hb : (hd.heap_1 w.params).lookup 351 = some ⟨oc, od, .func (fnOf name qual params body scope dV kV doc pm an cdv ct), osl⟩)
    {st J td rd R hds rn ot fd ap pa row : Addr} {P q x y : Bool → Addr} {l r : Bool → Value} {a b : Bool → Tm} {xs ys : Bool → List Value} {nx ny : Bool → Nat} {vt vl vr o1 o2 : Value} {t w1 w2 z : Tm} {hvs : List Value} {nh : Nat}
    {vs : List Value} {ns : List Int} {i nb at' : Int} {ti tb : Tok} {o oC : Obj} {rvs : List Value} {rns : List Int} {Q : Flow → Shared → Prop} (hE : PassesOwn (model prog w) (A.deeper (envOfC qual scope L f cd)) (envOfC qual scope L f cd) E)
    (S : LS prog w H st J td rd R hds rn P q x y l r a b xs ys nx ny vt vl vr t hvs nh) (kH : Live h₀ L nw (Keep H))
    (PO : ProgOk prog) (F : Fr h₀ L s.heap m) (X : (hd.heap_1 w.params).In h₀) (T : Top p loose mean mg mb h₀) (N : News h₀ L s.heap ((fd, o) :: nw)) (hAf : A.frames = some []) (Rr : Rm A 81)
    (hdo : FeedObj prog w row at' o) (hr : Live h₀ L nw fun h => h.IsList row rvs.toArray) (hri : IntsAre rvs rns) (hrl : rns.length ≤ 40) (ha0 : 0 ≤ at') (ha1 : at' < 890) (hne : ∀ q ∈ nw, q.1 ≠ fd)
    (hot : Tp h₀ nw ot #[o1, o2]) (ho1 : Tv (Tp h₀ nw) o1 w1.py) (ho2 : Tv (Tp h₀ nw) o2 w2.py) (W : Small2 w1 w2)
    (hap : Tp h₀ nw ap vs.toArray) (hi : IntV vs ns) (hlen : ns.length ≤ 9) (hbd : ∀ i ∈ ns, -1000 ≤ i ∧ i ≤ 1000) (Sp : Spot t i ns)
    (hz : Tv (Tp h₀ nw) (.ref pa) z.py) (gz : Low z) (hsz : sub t ns = some z ∨ sub t ns = none)
    (hC : (L + 1, oC) ∈ nw) (hCd : oC.data = .cell (some (.ref td))) (Hm : Nm m st hds rn ot fd vt nb tb) (Ht : Nt m i ti ap (.ref pa))
    (h : ∀ h' d tk' m' o' at2, at' ≤ at2 → at2 ≤ at' + 2 → FeedObj prog w row at2 o' → Fr h₀ L h' m' → News h₀ L h' ((fd, o') :: nw) → Nm m' st hds rn ot fd vt nb tb → Q .next { s with heap := h', drawn := d, toks := tk' }) :
    wpAny (model prog w) (A.deeper (envOfC qual scope L f cd)) (execs (forB (stN 8 body)) (envOfC qual scope L f cd)) Q E s := by
  refine' fn_elim hb ?e ?k
  case e => k_dflt k_is
  case k =>
    rintro rfl rfl rfl
    obtain ⟨pa', k, kv, e, hpt, hkids⟩ := Tm.kids_inv hz
    cases e
    have hkl : kv.length = (kidsOf z).length := hkids.length
    have hk2 := kids_few z
    have up : ∀ {o : Obj}, ∀ q ∈ nw, q ∈ (fd, o) :: nw := fun q hq => .tail _ hq
    have l1 := fun {s : Shared} {m : Str → Option Value} {Q : Flow → Shared → Prop} (F : Fr h₀ L s.heap m) (N : News h₀ L s.heap ((fd, o) :: nw)) (Hm : Nm m st hds rn ot fd vt nb tb) (Ht : Nt m i ti ap (.ref pa)) h => loop1 (s := s) (m := m) (Q := Q) hb hE S (kH.up up) PO F X T (news := (fd, o) :: nw) N hAf Rr (hap.live up) hi (by omega) hbd Sp (up _ hC) hCd Hm Ht h
    have l2 := fun {s : Shared} {m : Str → Option Value} {Q : Flow → Shared → Prop} (F : Fr h₀ L s.heap m) (N : News h₀ L s.heap ((fd, o) :: nw)) (Hm : Nm m st hds rn ot fd vt nb tb) (Ht : Nt m i ti ap (.ref pa)) h => loop2 (s := s) (m := m) (Q := Q) (i := i) (ti := ti) hb hE S (kH.up up) PO F X T (news := (fd, o) :: nw) N hAf Rr (hap.live up) hi hlen hbd (hpt.live up) (by rw [List.size_toArray, List.length_cons]; omega) (by rw [List.size_toArray, List.length_cons]; omega) (.none (sub_off hsz (.inr (by rw [List.size_toArray, List.length_cons]; omega)))) (.none (sub_off hsz (.inl (by decide)))) Hm Ht h
    have l3 := fun {s : Shared} {m : Str → Option Value} {o : Obj} {at' : Int} {u1 u2 : Tm} {v1 v2 : Value} {Q : Flow → Shared → Prop} (F : Fr h₀ L s.heap m) (N : News h₀ L s.heap ((fd, o) :: nw)) hdo ha0 ha1 hv1 hv2 S12 (Hm : Nm m st hds rn ot fd vt nb tb) (Ht : Nt m i ti ap (.ref pa)) m7 m8 h => fin3 (s := s) (m := m) (o := o) (at' := at') (u1 := u1) (u2 := u2) (v1 := v1) (v2 := v2) (Q := Q) (i := i) (ti := ti) (pv := .ref pa) (E := E) (f := f) (cd := cd) hb S kH PO F X T N hAf Rr hdo hr hri hrl ha0 ha1 hne (hap.live fun _ hq => hq) hi (by omega) hbd Sp hv1 hv2 S12 Hm Ht m7 m8 h
    have l4 := fun {s : Shared} {m : Str → Option Value} {op : Str} {Q : Flow → Shared → Prop} (F : Fr h₀ L s.heap m) (N : News h₀ L s.heap ((fd, o) :: nw)) hpt hop (Hm : Nm m st hds rn ot fd vt nb tb) (Ht : Nt m i ti ap (.ref pa)) h => asg3n (prog := prog) (s := s) (m := m) (op := op) (k := k) (kv := kv) (Q := Q) (E := E) (f := f) (cd := cd) (i := i) (ti := ti) (ap := ap) (pa := pa) (nw := nw) (o := o) hb F X T N Rr hpt hop hot Hm Ht h
    have l5 := fun {s : Shared} {m : Str → Option Value} {lv rv : Value} {Q : Flow → Shared → Prop} (F : Fr h₀ L s.heap m) (N : News h₀ L s.heap ((fd, o) :: nw)) hpt (Hm : Nm m st hds rn ot fd vt nb tb) (Ht : Nt m i ti ap (.ref pa)) h => asg3g (prog := prog) (s := s) (m := m) (lv := lv) (rv := rv) (k := k) (Q := Q) (E := E) (f := f) (cd := cd) (i := i) (ti := ti) (ap := ap) (pa := pa) (nw := nw) (o := o) hb F X T N Rr hdo hr hri hrl ha0 (by omega) hne hpt hot Hm Ht h
    clear hb
    dsimp only [stN, forB, hdS, List.drop, List.take] at l1 l2 l3 l4 l5 ⊢
    refine wpAny_execs_cons (l1 F N Hm Ht fun h1 d1 tk1 m1 F1 N1 Hm1 Ht1 => ?_)
    refine wpAny_execs_cons (l2 F1 N1 Hm1 Ht1 fun h2 d2 tk2 m2 F2 N2 Hm2 Ht2 => ?_)
    refine wpAny_execs_cons ?_
    cases z with
    | bin za zb =>
      obtain ⟨lv, rv, rfl⟩ : ∃ lv rv, kv = [lv, rv] := by
        rcases kv with _ | ⟨lv, _ | ⟨rv, _ | _⟩⟩ <;> simp [kidsOf] at hkl
        exact ⟨lv, rv, rfl⟩
      have hkids' : Tv (Tp h₀ nw) lv za.py ∧ Tv (Tp h₀ nw) rv zb.py := by
        cases hkids with | cons a b => cases b with | cons b c => exact ⟨a, b⟩
      refine l5 F2 N2 hpt Hm2 Ht2 fun h3 tk3 m3 o3 v1 v2 hv hf3 F3 N3 Hm3 Ht3 g7 g8 => ?_
      have hv' : ∃ u1 u2, Tv (Tp h₀ nw) v1 (Tm.py u1) ∧ Tv (Tp h₀ nw) v2 (Tm.py u2) ∧ Small2 u1 u2 := by
        rcases hv with ⟨rfl, rfl⟩ | ⟨rfl, rfl⟩
        · exact ⟨za, zb, hkids'.1, hkids'.2, gz.kids⟩
        · exact ⟨w1, w2, ho1, ho2, W⟩
      obtain ⟨u1, u2, q1, q2, q3⟩ := hv'
      refine l3 F3 N3 hf3 (by omega) (by omega) q1 q2 q3 Hm3 Ht3 g7 g8 fun h4 d4 tk4 m4 o4 hf4 F4 N4 Hm4 => ?_
      exact h _ _ _ _ _ _ (by omega) (by omega) hf4 F4 N4 Hm4
    | leaf c =>
      refine l4 F2 N2 hpt (leaf_op gz.p.1 (by intro a b q; cases q)) Hm2 Ht2 fun h3 tk3 m3 F3 N3 Hm3 Ht3 g7 g8 => ?_
      refine l3 F3 N3 hdo (by omega) (by omega) ho1 ho2 W Hm3 Ht3 g7 g8 fun h4 d4 tk4 m4 o4 hf4 F4 N4 Hm4 => ?_
      exact h _ _ _ _ _ _ (by omega) (by omega) hf4 F4 N4 Hm4
    | un u =>
      refine l4 F2 N2 hpt (leaf_op gz.p.1 (by intro a b q; cases q)) Hm2 Ht2 fun h3 tk3 m3 F3 N3 Hm3 Ht3 g7 g8 => ?_
      refine l3 F3 N3 hdo (by omega) (by omega) ho1 ho2 W Hm3 Ht3 g7 g8 fun h4 d4 tk4 m4 o4 hf4 F4 N4 Hm4 => ?_
      exact h _ _ _ _ _ _ (by omega) (by omega) hf4 F4 N4 Hm4
end
end
/-! LawP -/
section
open PyProof.Rows.LCg
def tgS : List Stmt → PySem.Expr
  | [.For t _ _ _ _] => t
  | _ => .Constant .none 0 ⟨0, 0, 0, 0⟩
/-- what the loop of the law walks over -/
def Item (P : Addr → Array Value → Prop) (t : Tm) (v : Value) : Prop := ∃ T j tk xv y, v = .ref T ∧ P T #[.int j tk, xv] ∧ ItV P xv y ∧ y.1.length ≤ 9 ∧ (∀ i ∈ y.1, -1000 ≤ i ∧ i ≤ 1000) ∧ Spot t j y.1 ∧ Low y.2 ∧ (sub t y.1 = some y.2 ∨ sub t y.1 = none)
theorem Item.mono {P P' : Addr → Array Value → Prop} (hp : ∀ a vs, P a vs → P' a vs) {t : Tm} {v : Value} (x : Item P t v) : Item P' t v :=
  let ⟨T, j, tk, xv, y, e, a, b, c⟩ := x; ⟨T, j, tk, xv, y, e, hp _ _ a, b.mono hp, c⟩
theorem w184 : True := by
  k_with "M execs cons" => ((fail_if_success (have := endOfLawP)); case' FRESH => ((refine Stop.in ?_)))
  trivial
section
variable {prog : Program} {w : World} {p : Program} {loose : List Str} {mean : ExcName → Option Value} {mg mb : Str → Option Value}
variable {A : Around} {s : Shared} {h₀ H : Heap} {L : Addr} {m : Str → Option Value} {nw : List (Addr × Obj)} {E : Value → Shared → Prop}
variable {name qual : Str} {params : Arguments} {body : List Stmt} {scope : Scope} {dV kV doc pm cdv ct oc cd : Value} {an od : Option Addr} {osl : Array (Option Value)} {f : Addr}
set_option maxRecDepth 100000 in
set_option maxHeartbeats 1000000 in
theorem loopO (hb : (hd.heap_1 w.params).lookup 351 = some ⟨oc, od, .func (fnOf name qual params body scope dV kV doc pm an cdv ct), osl⟩)
    {st J td rd R hds rn ot fd row D : Addr} {P q x y : Bool → Addr} {l r : Bool → Value} {a b : Bool → Tm} {xs ys : Bool → List Value} {nx ny : Bool → Nat} {vt vl vr o1 o2 : Value} {t w1 w2 : Tm} {hvs vs : List Value} {nh nd : Nat}
    {nb at' : Int} {tb : Tok} {o oC : Obj} {rvs : List Value} {rns : List Int} {Q : Flow → Shared → Prop} (hE : PassesOwn (model prog w) (A.deeper (envOfC qual scope L f cd)) (envOfC qual scope L f cd) E)
    (S : LS prog w H st J td rd R hds rn P q x y l r a b xs ys nx ny vt vl vr t hvs nh) (kH : Live h₀ L nw (Keep H))
    (PO : ProgOk prog) (F : Fr h₀ L s.heap m) (X : (hd.heap_1 w.params).In h₀) (T : Top p loose mean mg mb h₀) (N : News h₀ L s.heap ((fd, o) :: nw)) (hAf : A.frames = some []) (Rr : Rm A 81)
    (hdo : FeedObj prog w row at' o) (hr : Live h₀ L nw fun h => h.IsList row rvs.toArray) (hri : IntsAre rvs rns) (hrl : rns.length ≤ 40) (ha0 : 0 ≤ at') (ha1 : at' < 500) (hne : ∀ q ∈ nw, q.1 ≠ fd)
    (hot : Tp h₀ nw ot #[o1, o2]) (ho1 : Tv (Tp h₀ nw) o1 w1.py) (ho2 : Tv (Tp h₀ nw) o2 w2.py) (W : Small2 w1 w2)
    (hD : (D, PySem.W.listOf vs.toArray nd) ∈ nw) (hvs9 : ∀ v ∈ vs, Item (Tp h₀ nw) t v) (hvl : vs.length ≤ 100)
    (hC : (L + 1, oC) ∈ nw) (hCd : oC.data = .cell (some (.ref td))) (Hm : Nm m st hds rn ot fd vt nb tb)
    (h : ∀ h' d tk' m' o', Fr h₀ L h' m' → News h₀ L h' ((fd, o') :: nw) → Nm m' st hds rn ot fd vt nb tb → Q .next { s with heap := h', drawn := d, toks := tk' }) :
    wpAny (model prog w) (A.deeper (envOfC qual scope L f cd)) (pyIter (.ref D)) (fun it s₂ => LoopG prog w (A.deeper (envOfC qual scope L f cd)) (envOfC qual scope L f cd) (tgS (stN 8 body)) (forB (stN 8 body)) Q E it s₂) E s := by
  obtain ⟨hA, dA, fA, gA, uA⟩ := A
  obtain rfl : hA = none := Rr.hh
  refine iter_lstD rfl F N (News.isList N (.tail _ hD)) fun I hI => ?_
  have turn := fun {s : Shared} {m : Str → Option Value} {nw : List (Addr × Obj)} {o : Obj} {ap pa : Addr} {i at' : Int} {ti : Tok} {vs : List Value} {ns : List Int} {z : Tm} {Q : Flow → Shared → Prop} kH (F : Fr h₀ L s.heap m) (N : News h₀ L s.heap ((fd, o) :: nw)) hdo hr ha0 ha1 hne hot ho1 ho2 hap hi hlen hbd Sp hz gz hsz hC (Hm : Nm m st hds rn ot fd vt nb tb) Ht h => turnO (row := row) (s := s) (m := m) (nw := nw) (o := o) (ap := ap) (pa := pa) (i := i) (at' := at') (ti := ti) (vs := vs) (ns := ns) (z := z) (Q := Q) hb hE S kH PO F X T N hAf Rr hdo hr hri hrl ha0 ha1 hne (o1 := o1) (o2 := o2) hot ho1 ho2 W hap hi hlen hbd Sp hz gz hsz (oC := oC) hC hCd Hm Ht h
  refine' fn_elim hb ?e ?k
  case e => k_dflt k_is
  case k =>
    rintro rfl rfl rfl
    clear hb
    dsimp only [stN, forB, tgS, List.drop, List.take] at turn ⊢
    refine RestD.ind (fun ps m' n' => oneOf (Item (Tp h₀ nw) t) ps ∧ Nm m' st hds rn ot fd vt nb tb ∧ ∃ o' at2, n' = (fd, o') :: nw ∧ FeedObj prog w row at2 o' ∧ 0 ≤ at2 ∧ at2 + 2 * (ps.length : Int) ≤ 800) ?zero ?succ _ _ _ ⟨?ps, Hm, o, at', rfl, hdo, ha0, by rw [List.length_map]; omega⟩
    case ps =>
      intro q hq v hv
      obtain ⟨u, hu, rfl⟩ := List.mem_map.mp hq
      have hv : v = u := hv
      rw [hv]; exact hvs9 _ hu
    case zero =>
      rintro m' n' h' d tk' ⟨_, h1, o', at2, rfl, _⟩ F' N'
      exact h _ _ _ _ _ F' N' h1
    case succ =>
      rintro q v ps m' n' oI h' d tk' ⟨hps, h1, o', at2, rfl, hf, hb0, hb1⟩ hv hoI F' N'
      obtain ⟨T', j, tj, xv, yy, rfl, hT, hIt, y1, y2, y3, y4, y5⟩ := hps _ (.head _) _ hv
      have hps2 := hps.tail
      rw [List.length_cons] at hb1
      obtain ⟨pc, vp, vt', rfl, hpc, ⟨ap, pvs, rfl, hap, hpi⟩, hz⟩ := hIt
      obtain ⟨pa, rfl⟩ := Tv.isRef hz
      have hIf : I ≠ fd := Nat.ne_of_gt (hI (fd, o) (.head _))
      have hIn : ∀ q ∈ nw, q.1 ≠ I := fun q hq => Nat.ne_of_lt (hI q (.tail _ hq))
      clear F N hI hps hv
      refine (?_ : let mM' := _; let aA' := _; wpAny mM' aA' _ _ _ _); intro mM' aA'
      (try k_fold)
      k_steps
      refine Stop.out ?_
      rename Fr _ _ _ _ => F9
      rename News _ _ _ _ => N9
      have up : ∀ q ∈ nw, q ∈ (I, oI) :: nw := fun q hq => .tail _ hq
      have gr : ∀ (c : Addr) (us : Array Value), Tp h₀ nw c us → Tp h₀ ((I, oI) :: nw) c us := fun c us z => Tp.grow up z
      refine turn (nw := (I, oI) :: nw) (kH.up up) F9 (fun q hq => N9 q (by
        rcases List.mem_cons.mp hq with rfl | hq
        · exact .tail _ (.head _)
        · rcases List.mem_cons.mp hq with rfl | hq
          · exact .head _
          · exact .tail _ (.tail _ hq))) hf (hr.up up) hb0 (by omega) (fun q hq => ?_) (gr _ _ hot) (ho1.mono gr) (ho2.mono gr) (gr _ _ hap) hpi y1 y2 y3 (hz.mono gr) y4 y5 (.tail _ hC) (((h1.put rfl).put rfl).put rfl)
        ⟨(if_neg (by decide)).trans ((if_neg (by decide)).trans (if_pos rfl)), (if_neg (by decide)).trans (if_pos rfl), if_pos rfl⟩ fun h7 d7 tk7 m7 o7 at7 g1 g2 g3 F7 N7 Hm7 => ?_
      · rcases List.mem_cons.mp hq with rfl | hq
        · exact hIf
        · exact hne q hq
      · have N6 : News h₀ L h7 ((I, oI) :: (fd, o7) :: nw) := fun q hq => N7 q (by
          rcases List.mem_cons.mp hq with rfl | hq
          · exact .tail _ (.head _)
          · rcases List.mem_cons.mp hq with rfl | hq
            · exact .head _
            · exact .tail _ (.tail _ hq))
        refine UEndD.intro F7 N6 .here (fun q hq => ?_) (News.isList N6 (.tail _ (.tail _ hD))) ⟨hps2, Hm7, o7, at7, rfl, g3, by omega, by omega⟩
        rcases List.mem_cons.mp hq with rfl | hq
        · exact Ne.symm hIf
        · exact hIn q hq
end
end
theorem endOfLawP : True := trivial
/-! LawH0 -/
section
open PyProof.Rows.LCg
theorem News.sel {h₀ h : Heap} {L : Addr} {a b c d : Addr × Obj} (N : News h₀ L h [a, b, c, d]) : News h₀ L h [c, a, d] := fun q hq => N q (by
  rcases List.mem_cons.mp hq with rfl | hq
  · exact .tail _ (.tail _ (.head _))
  · rcases List.mem_cons.mp hq with rfl | hq
    · exact .head _
    · exact .tail _ (.tail _ (.tail _ hq)))
theorem row_line {ws : List Value} {ns : List Int} {k : Nat} (x : IntsAre ws ns) (h : ns.length = min 40 k) : ws.length ≤ sizeLine := by
  have := IntsAre.length x
  have : (1000 : Nat) ≤ sizeLine := by decide
  omega
section
variable {prog : Program} {w : World} {A : Around} {E : Value → Shared → Prop} {s : Shared} {h₀ : Heap} {L : Addr} {m : Str → Option Value} {env : Env} {news : List (Addr × Obj)}
theorem IntsAre.snoc {vs : List Value} {ns : List Int} {i : Int} {t : Tok} (x : IntsAre vs ns) : IntsAre (vs ++ [.int i t]) (ns ++ [i]) := by
  induction x with
  | nil => exact .cons _ _ .nil
  | cons _ _ _ ih => exact .cons _ _ ih
def IntEnd (news' news : List (Addr × Obj)) (y : Value) (i : Int) : Prop := news' = news ∧ ∃ t, y = .int i t
/-- a comprehension from ints to ints -/
theorem CRest.intsF {elt : Expr} {x : Str} {px : Pos} {scope : Scope} {cl : List (Str × Addr)} {kt : Heap → Prop} {Fin : List Value → List (Addr × Obj) → Prop} {vs : List Value} {ns : List Int} (g : Int → Int) (hv : IntsAre vs ns)
    (turn : ∀ (i : Int) (t : Tok) ys (I : Addr) (oI : Obj) (D C : Addr) (oC : Obj) m₂ h tk (E' : Value → Shared → Prop), tupObj oI = false → NsObj oC m₂ → m₂ x = some (.int i t) → tupObj oC = false → Fr h₀ L h m → News h₀ L h ((I, oI) :: (C, oC) :: (D, lst ys) :: news) → (∀ p ∈ news, p.1 ≠ I) → (∀ p ∈ news, p.1 ≠ C) → (∀ p ∈ news, p.1 ≠ D) → ((@Ne Nat I C) ∧ (@Ne Nat I D) ∧ (@Ne Nat C D)) →
        wpAny (model prog w) A (eval elt (compEnvC scope cl C env)) (fun y => CEnd h₀ L m { s with heap := h, toks := tk } I oI C oC D (lst ys) kt (fun news' => IntEnd news' news y (g i))) E' { s with heap := h, toks := tk })
    (fin : ∀ ws, IntsAre ws (ns.map g) → Fin ws news) : CRest prog w A h₀ L m env (.Name x px) elt none scope cl s kt Fin vs [] news := by
  have gen : ∀ (ys : List Value) (ms : List Int), IntsAre ys ms → (∀ ws, IntsAre ws (ms ++ ns.map g) → Fin ws news) → CRest prog w A h₀ L m env (.Name x px) elt none scope cl s kt Fin vs ys news := by
    clear fin
    induction hv with
    | nil => intro ys ms hy fin; exact CRest.zero (fin ys (by rw [List.map_nil, List.append_nil]; exact hy))
    | @cons i t vs ns hv ih =>
      intro ys ms hy fin
      refine CRest.name fun I oI D C oC m₂ h tk E' hI hC hx hC2 F N n1 n2 n3 ne => ?_
      refine wpAny_mono (turn i t ys I oI D C oC m₂ h tk E' hI hC hx hC2 F N n1 n2 n3 ne) (fun y s₃ h₃ => ?_) fun _ _ e => e
      obtain ⟨h', tk', news', e, F', N', o1, o2, o3, k, rfl, t', rfl⟩ := h₃
      exact ⟨h', tk', _, e, F', N', o1, o2, o3, k, ih _ (ms ++ [g i]) (IntsAre.snoc hy) fun ws hw => fin ws (by rw [List.append_assoc] at hw; exact hw)⟩
  exact gen [] [] .nil fin
end
theorem w185 : True := by
  k_with "M CRest" => ((fail_if_success (have := endOfLawH0)); case' FRESH => ((k_here; k_dflt (refine' CRest.intsF (fun i => i.fmod 1000003) ?hv (fun i' t' ys' I' oI' D' C' oC' m' h' tk' E' hI' hC' hx' hC2' F' N' n1' n2' n3' ne' => ?_) (fun ws' hw' => ?_); (case hv => assumption)); (all_goals (try ((refine (?_ : let q' : _ → Shared → Prop := _; let e' : Value → Shared → Prop := _; wpAny _ _ _ q' e' _)); intro q' e'))))))
  trivial
theorem w186 : True := by
  k_with "M IntEnd" => ((fail_if_success (have := endOfLawH0)); case' FRESH => (exact ⟨rfl, _, rfl⟩))
  trivial
theorem w187 : True := by
  k_with "M pyIter ref" => ((fail_if_success (have := endOfLawH0)); case' FRESH => ((k_here; (with_reducible show wpAny _ _ (pyIter (Value.ref _)) (fun it s₂ => CompG _ _ _ _ _ _ _ _ _ _ _ _ _ it s₂) _ _); k_dflt (refine' comp_iter_lst ?h ?F ?N ?X ?z ?_; (case h => rfl); (case F => k_asm); (case N => k_asm); (case X => exact News.isList (by k_asm) (by k_mem)); (case z => exact row_line (by assumption) (by assumption)); k_whole); intro g')))
  trivial
theorem w188 : True := by
  k_with "M eval Name" => ((fail_if_success (have := endOfLawH0)); case' FRESH => ((k_here; k_dflt (refine' nameX_L ?F ?v ?_ ?a ?b; (case F => k_asm); (case a => rfl); (case b => rfl); (case v => assumption); k_whole))))
  trivial
section
variable {prog : Program} {w : World} {p : Program} {loose : List Str} {mean : ExcName → Option Value} {mg mb : Str → Option Value}
variable {A : Around} {s : Shared} {h₀ H : Heap} {L : Addr} {m : Str → Option Value} {nw : List (Addr × Obj)} {E : Value → Shared → Prop}
variable {name qual : Str} {params : Arguments} {body : List Stmt} {scope : Scope} {dV kV doc pm cdv ct oc cd : Value} {an od : Option Addr} {osl : Array (Option Value)} {f : Addr}
set_option maxRecDepth 100000 in
set_option maxHeartbeats 1000000 in
theorem head0 (hb : (hd.heap_1 w.params).lookup 351 = some ⟨oc, od, .func (fnOf name qual params body scope dV kV doc pm an cdv ct), osl⟩)
    {sl : Addr} {oC : Obj} {svs : List Value} {sns : List Int} {Q : Flow → Shared → Prop}
    (F : Fr h₀ L s.heap m) (X : (hd.heap_1 w.params).In h₀) (T : Top p loose mean mg mb h₀) (N : News h₀ L s.heap [(L + 1, oC)]) (Rr : Rm A 81)
    (hsl : h₀.IsList sl svs.toArray) (hsi : IntsAre svs sns) (hsn : sns.length ≤ 63) (m1 : m (Str.ofString "script") = some (.ref sl))
    (h : ∀ h' tk' fd o row rvs rns n, FeedObj prog w row 0 o → IntsAre rvs rns → rns.length ≤ 40 → fd ≠ L + 1 → row ≠ fd → Fr h₀ L h' (fun y => if y = Str.ofString "feed" then some (.ref fd) else m y) → News h₀ L h' [(fd, o), (row, PySem.W.listOf rvs.toArray n), (L + 1, oC)] → Q .next { s with heap := h', toks := tk' }) :
    wpAny (model prog w) (A.deeper (envOfC qual scope L f cd)) (exec (hdS (stN 0 body)) (envOfC qual scope L f cd)) Q E s := by
  obtain ⟨hA, dA, fA, gA, uA⟩ := A
  obtain rfl : hA = none := Rr.hh
  have hsl9 := listKeep hsl F.keep
  refine' fn_elim hb ?e ?k
  case e => k_dflt k_is
  case k =>
    rintro rfl rfl rfl
    dsimp only [stN, forB, hdS, List.drop, List.take]
    refine (?_ : let mM' := _; let aA' := _; wpAny mM' aA' _ _ _ _); intro mM' aA'
    (try k_fold)
    k_steps
    rename Fr _ _ _ _ => F9
    rename News _ _ _ _ => N9
    refine' h _ _ _ _ _ _ _ _ ?a ?b ?c ?d ?e F9 (News.sel N9)
    case a => exact ⟨_, by assumption⟩
    case b => assumption
    case c => rw [List.length_map]; omega
    case d => k_ne
    case e => k_ne
end
end
theorem endOfLawH0 : True := trivial
/-! LawH1 -/
section
open PyProof.Rows.LCg
theorem size_low : ∀ (t : Tm), t.size + 1 ≤ 2 ^ (t.height + 1)
  | .leaf _ => by simp [Tm.size, Tm.height]
  | .un t => by have := size_low t; simp only [Tm.size, Tm.height, Nat.pow_succ] at *; omega
  | .bin t u => by
    have h1 := size_low t
    have h2 := size_low u
    have e1 : 2 ^ (t.height + 1) ≤ 2 ^ (max t.height u.height + 1) := Nat.pow_le_pow_right (by decide) (by omega)
    have e2 : 2 ^ (u.height + 1) ≤ 2 ^ (max t.height u.height + 1) := Nat.pow_le_pow_right (by decide) (by omega)
    simp only [Tm.size, Tm.height, Nat.pow_succ] at *; omega
theorem size_three {t : Tm} (h : t.height ≤ 3) : t.size ≤ 15 := by
  have := size_low t
  have e : 2 ^ (t.height + 1) ≤ 2 ^ 4 := Nat.pow_le_pow_right (by decide) (by omega)
  omega
theorem drawn_three {t : Tm} (hp : t.Plain) (h : t.height ≤ 3) : Drawn3 t := ⟨hp, by omega, by have := size_three h; omega⟩
theorem News.perm2 {h₀ h : Heap} {L : Addr} {a b : Addr × Obj} {r : List (Addr × Obj)} (N : News h₀ L h (a :: b :: r)) : News h₀ L h (b :: a :: r) := fun q hq => N q (by
  rcases List.mem_cons.mp hq with rfl | hq
  · exact .tail _ (.head _)
  · rcases List.mem_cons.mp hq with rfl | hq
    · exact .head _
    · exact .tail _ (.tail _ hq))
theorem w189 : True := by
  k_with "M eval Name" => ((fail_if_success (have := endOfLawH1)); case' FRESH => ((k_here; k_dflt (refine' nameX_L ?F ?v ?_ ?a ?b; (case F => k_asm); (case a => rfl); (case b => rfl); (case v => assumption); k_whole))))
  trivial
theorem w190 : True := by
  k_with "M call ref" => ((fail_if_success (have := endOfLawH1)); case' FRESH => ((k_here; (with_reducible show wpAny _ _ (call (Value.ref 327) _ _) _ _ _); k_dflt (refine' term_use (n := 3) ?C ?F ?X ?T ?N ?U ?hdo ?hr ?hi ?R ?h0 ?h1 ?hlen ?hfl ?_; (case hfl => rfl); (case F => k_asm); (case X => k_asm); (case T => k_asm); (case N => k_asm); (case U => k_updF); (case hdo => assumption); (case hr => exact Live.get (P := fun h => h.IsList _ _) (by assumption) (by k_asm) (by k_asm) (by k_all)); (case hi => k_asm); (case R => exact Rm.le (Rm.deeper (by assumption)) (by decide)); (case h0 => omega); (case h1 => (simp only [cost]); omega); (case hlen => assumption); (case C => exact term_all _); k_whole); intro t' v' h' o' tk' at2' tl' hpl' ht' ha' hb' hf' F' N' hq' hA' hv'; (try simp only [List.cons_append, List.nil_append] at N'))))
  trivial
theorem w191 : True := by
  k_with "M call ref" => ((fail_if_success (have := endOfLawH1)); case' FRESH => ((k_here; (with_reducible show wpAny _ _ (call (Value.ref 334) _) _ _ _); k_dflt (refine' headsT_use ?F ?X ?T ?N ?R ?hz ?hv ?_; (case F => k_asm); (case X => k_asm); (case T => k_asm); (case N => k_asm); (case hv => exact Tv.at (by assumption) (by k_asm) (by k_asm) (by k_all)); (case R => exact Rm.le (Rm.deeper (by assumption)) (by omega)); (case hz => assumption); k_whole); intro l' h' tk' vs' n' tl' F' N' l1 hA' hd'; (try simp only [List.cons_append, List.nil_append] at N'))))
  trivial
theorem w192 : True := by
  k_with "M call ref" => ((fail_if_success (have := endOfLawH1)); case' FRESH => ((k_here; (with_reducible show wpAny _ _ (call (Value.ref 339) _) _ _ _); k_dflt (refine' parts_use ?C ?F ?X ?T ?N ?R ?hz ?hv ?_; (case F => k_asm); (case X => k_asm); (case T => k_asm); (case N => k_asm); (case hv => exact Tv.at (by assumption) (by k_asm) (by k_asm) (by k_all)); (case R => exact Rm.le (Rm.deeper (by assumption)) (by omega)); (case hz => assumption); (case C => exact parts_all _); k_whole); intro l' h' tk' vs' n' tl' F' N' l1 hA' hs' hl' hi'; (try simp only [List.cons_append, List.nil_append] at N'))))
  trivial
section
variable {prog : Program} {w : World} {p : Program} {loose : List Str} {mean : ExcName → Option Value} {mg mb : Str → Option Value}
variable {A : Around} {s : Shared} {h₀ H : Heap} {L : Addr} {m : Str → Option Value} {nw : List (Addr × Obj)} {E : Value → Shared → Prop}
variable {name qual : Str} {params : Arguments} {body : List Stmt} {scope : Scope} {dV kV doc pm cdv ct oc cd : Value} {an od : Option Addr} {osl : Array (Option Value)} {f : Addr}
set_option maxRecDepth 100000 in
set_option maxHeartbeats 1000000 in
theorem head1 (hb : (hd.heap_1 w.params).lookup 351 = some ⟨oc, od, .func (fnOf name qual params body scope dV kV doc pm an cdv ct), osl⟩)
    {fd row : Addr} {o : Obj} {rvs : List Value} {rns : List Int} {at' : Int} {Q : Flow → Shared → Prop}
    (F : Fr h₀ L s.heap m) (X : (hd.heap_1 w.params).In h₀) (T : Top p loose mean mg mb h₀) (N : News h₀ L s.heap ((fd, o) :: nw)) (Rr : Rm A 81)
    (hdo : FeedObj prog w row at' o) (hr : Live h₀ L nw fun h => h.IsList row rvs.toArray) (hri : IntsAre rvs rns) (hrl : rns.length ≤ 40) (ha0 : 0 ≤ at') (ha1 : at' < 500) (hne : ∀ q ∈ nw, q.1 ≠ fd) (m1 : m (Str.ofString "feed") = some (.ref fd))
    (h : ∀ h' tk' o' at2 (t : Tm) v tl, FeedObj prog w row at2 o' → at' ≤ at2 → at2 ≤ at' + 15 → t.Plain → t.height ≤ 3 → AllTup tl → (∀ q ∈ tl, q.1 ≠ fd) → Tv (Tp h₀ tl) v t.py → Fr h₀ L h' (fun y => if y = Str.ofString "term" then some v else m y) → News h₀ L h' ((fd, o') :: (nw ++ tl)) → Q .next { s with heap := h', toks := tk' }) :
    wpAny (model prog w) (A.deeper (envOfC qual scope L f cd)) (exec (hdS (stN 1 body)) (envOfC qual scope L f cd)) Q E s := by
  obtain ⟨hA, dA, fA, gA, uA⟩ := A
  obtain rfl : hA = none := Rr.hh
  refine' fn_elim hb ?e ?k
  case e => k_dflt k_is
  case k =>
    rintro rfl rfl rfl
    dsimp only [stN, forB, hdS, List.drop, List.take]
    refine (?_ : let mM' := _; let aA' := _; wpAny mM' aA' _ _ _ _); intro mM' aA'
    (try k_fold)
    k_steps
    rename Fr _ _ _ _ => F9
    rename News _ _ _ _ => N9
    exact h _ _ _ _ _ _ _ (by assumption) (by assumption) (by assumption) (by assumption) (by assumption) (by assumption) (by assumption) (by assumption) F9 N9
set_option maxRecDepth 100000 in
set_option maxHeartbeats 1000000 in
theorem head2 (hb : (hd.heap_1 w.params).lookup 351 = some ⟨oc, od, .func (fnOf name qual params body scope dV kV doc pm an cdv ct), osl⟩)
    {fd : Addr} {o oC : Obj} {v : Value} {t : Tm} {vc : Option Value} {Q : Flow → Shared → Prop}
    (F : Fr h₀ L s.heap m) (X : (hd.heap_1 w.params).In h₀) (T : Top p loose mean mg mb h₀) (N : News h₀ L s.heap ((L + 1, oC) :: (fd, o) :: nw)) (Rr : Rm A 81) (hCd : oC.data = .cell vc)
    (hnC1 : NeA fd (L + 1)) (hnC : ∀ q ∈ nw, q.1 ≠ L + 1) (m1 : m (Str.ofString "term") = some v) (hv : Tv (Tp h₀ nw) v t.py) (hz : t.size ≤ 100) (hz2 : t.size ≤ 100 ∧ t.height ≤ 100) (hh : t.height ≤ 3)
    (h : ∀ h' tk' td odd oC' l1 vs1 n1 l2 vs2 n2 tl1 tl2, AllTup tl1 → AllTup tl2 → TvL (Tp h₀ tl1) vs1 ((headL t).map itemPy) → ItL (Tp h₀ tl2) vs2 (partsL t) → vs2.length = t.size ∧ 1 ≤ t.size → odd.IsDictOf (strKind prog w) [] → (td == sysModules) = false → oC'.data = .cell (some (.ref td)) → (∀ q ∈ (l2, PySem.W.listOf vs2.toArray n2) :: (l1, PySem.W.listOf vs1.toArray n1) :: (L + 1, oC') :: (nw ++ tl1 ++ tl2), q.1 ≠ td) → NeA td fd → NeA fd l1 → NeA fd l2 → NeA (L + 1) l1 → NeA (L + 1) l2 →
      Fr h₀ L h' (fun y => if y = Str.ofString "pieces" then some (.ref l2) else if y = Str.ofString "heads" then some (.ref l1) else m y) → News h₀ L h' ((td, odd) :: (l2, PySem.W.listOf vs2.toArray n2) :: (l1, PySem.W.listOf vs1.toArray n1) :: (L + 1, oC') :: (fd, o) :: (nw ++ tl1 ++ tl2)) → Q .next { s with heap := h', toks := tk' }) :
    wpAny (model prog w) (A.deeper (envOfC qual scope L f cd)) (exec (hdS (stN 2 body)) (envOfC qual scope L f cd)) Q E s := by
  obtain ⟨hA, dA, fA, gA, uA⟩ := A
  obtain rfl : hA = none := Rr.hh
  obtain ⟨va, rfl⟩ := Tv.isRef hv
  refine' fn_elim hb ?e ?k
  case e => k_dflt k_is
  case k =>
    rintro rfl rfl rfl
    dsimp only [stN, forB, hdS, List.drop, List.take]
    refine (?_ : let mM' := _; let aA' := _; wpAny mM' aA' _ _ _ _); intro mM' aA'
    (try k_fold)
    k_steps
    rename Fr _ _ _ _ => F9
    rename News _ _ _ _ => N9
    exact h _ _ _ _ _ _ _ _ _ _ _ _ _ (by assumption) (by assumption) (by assumption) (by assumption) (by assumption) (by assumption) (by assumption) (by assumption) (by k_all) (by refine NeA.of ?_; k_ne) (by refine NeA.of ?_; k_ne) (by refine NeA.of ?_; k_ne) (by refine NeA.of ?_; k_ne) (by refine NeA.of ?_; k_ne) F9 (fun q hq => N9 q (.tail _ hq))
end
end
theorem endOfLawH1 : True := trivial
/-! LawH3 -/
section
open PyProof.Rows.LCg
theorem ItL.get {P : Addr → Array Value → Prop} {vs : List Value} {ds : List (List Int × Tm)} (x : ItL P vs ds) : ∀ (i : Nat), i < vs.length → ∃ v d, vs[i]? = some v ∧ ds[i]? = some d ∧ ItV P v d := by
  induction x with
  | nil => intro i h; exact absurd h (Nat.not_lt_zero _)
  | @cons v vs d ds hv _ ih =>
    intro i h
    cases i with
    | zero => exact ⟨v, d, rfl, rfl, hv⟩
    | succ i => simpa using ih i (by simpa using h)
theorem partsL_low : ∀ (t : Tm) (x : List Int × Tm), x ∈ partsL t → t.Plain → x.2.Plain ∧ x.2.height ≤ t.height := fun t x hx hp => by
  obtain ⟨k, hk⟩ := List.getElem?_of_mem hx
  have := partsK t k x hk
  have := sub_low _ _ _ this.sub hp
  exact ⟨this.1, this.2.1⟩
section
variable {prog : Program} {w : World} {A : Around} {s : Shared} {E : Value → Shared → Prop} {Q : Value → Shared → Prop}
theorem piece_use {value slice : PySem.Expr} {l : Addr} {vs : List Value} {k : Int} {u : Tok} {P : Addr → Array Value → Prop} {t : Tm} (hl : s.heap.IsList l vs.toArray) (hI : ItL P vs (partsL t)) (h0 : 0 ≤ k) (h1 : k < (vs.length : Int)) (hz : vs.length ≤ 1000) (hp : t.Plain)
    (h : ∀ pc vp va x, P pc #[vp, .ref va] → Tv P (.ref va) (Tm.py x) → x.Plain → x.height ≤ t.height → Q (.ref pc) s)
    (hs : subscripted slice false (.ref l) (.int k u) = operate [.ref l, .int k u] (getItem (.ref l) (.int k u))) (hg : ∀ r, letTemporaryGo value (.ref l) r = pure ()) :
    wpAny (model prog w) A (subscriptTail value slice (.ref l) (.int k u)) Q E s := by
  obtain ⟨v, d, hv, hd, hV⟩ := hI.get k.toNat (by omega)
  obtain ⟨pc, vp, vt, rfl, a, b, c⟩ := hV
  obtain ⟨va, rfl⟩ := Tv.isRef c
  have lo := partsL_low t d (List.mem_of_getElem? hd) hp
  exact item_listL hl h0 (by omega) hv (h pc vp va d.2 a c lo.1 lo.2) hs hg
end
theorem dict_noTup {prog : Program} {w : World} {o : Obj} {kvs : List (Str × Value)} (x : o.IsDictOf (strKind prog w) kvs) : tupObj o = false := by
  obtain ⟨es, ep, _, hd, _⟩ := x
  unfold tupObj; rw [hd]; simp
section
variable {prog : Program} {w : World} {A : Around} {s : Shared} {h₀ : Heap} {L : Addr} {m : Str → Option Value} {news : List (Addr × Obj)} {gl : Obj → List (Addr × Obj)} {d : Addr} {o : Obj} {E : Value → Shared → Prop} {Q : Unit → Shared → Prop}
theorem setStr_use {kvs : List (Str × Value)} {x : Str} {t : Tok} {v : Value} (F : Fr h₀ L s.heap m) (N : News h₀ L s.heap news) (U : UpdF d o news gl) (hd : o.IsDictOf (strKind prog w) kvs) (hz : kvs.length ≤ 100)
    (h : ∀ h' o', o'.IsDictOf (strKind prog w) (stored kvs x v) → tupObj o' = false → Fr h₀ L h' m → News h₀ L h' (gl o') → Q () { s with heap := h', toks := s.toks + 1 }) : wpAny (model prog w) A (setItem (.ref d) (.str x t) v) Q E s := by
  have hs : (100 : Nat) ≤ sizeLine := by decide
  obtain ⟨es, ep, r⟩ := hd
  refine wpAny_setItem_pairs (strKind_is _ _ _ _) ⟨o, es, ep, (N _ (updF_mem U)).1, r⟩ (fun h' hd' hsb => ?_) (by omega)
  obtain ⟨o', es', ep', ho', r'⟩ := hd'
  obtain ⟨F', N'⟩ := upd_news F N U ho' fun b ob hb e => hsb.extBut b ob hb e
  exact h h' o' ⟨es', ep', r'⟩ (dict_noTup ⟨es', ep', r'⟩) F' N'
end
theorem key0 : Str.ofString "t" ++ Str.ofString (toString (0 : Int)) = t0 := by decide +kernel
theorem key1 : Str.ofString "t" ++ Str.ofString (toString (1 : Int)) = t1 := by decide +kernel
theorem News.sel3 {h₀ h : Heap} {L : Addr} {a b c : Addr × Obj} {r : List (Addr × Obj)} (N : News h₀ L h (a :: b :: c :: r)) : News h₀ L h (b :: c :: a :: r) := fun q hq => N q (by
  rcases List.mem_cons.mp hq with rfl | hq
  · exact .tail _ (.head _)
  · rcases List.mem_cons.mp hq with rfl | hq
    · exact .tail _ (.tail _ (.head _))
    · rcases List.mem_cons.mp hq with rfl | hq
      · exact .head _
      · exact .tail _ (.tail _ (.tail _ hq)))
theorem Tv.grow {h₀ : Heap} {tl tl' : List (Addr × Obj)} {v : Value} {d : PyData} (x : Tv (Tp h₀ tl) v d) (k : ∀ p ∈ tl, p ∈ tl') : Tv (Tp h₀ tl') v d := x.mono fun _ _ z => Tp.grow k z
theorem sub_get {α} {a : α} {l l' : List α} (h : a ∈ l) (k : ∀ p ∈ l, p ∈ l') : a ∈ l' := k _ h
theorem w193 : True := by
  k_with "M eval Name" => ((fail_if_success (have := endOfLawH3)); case' FRESH => ((k_here; k_dflt (refine' nameX_L ?F ?v ?_ ?a ?b; (case F => k_asm); (case a => rfl); (case b => rfl); (case v => assumption); k_whole))))
  trivial
theorem w194 : True := by
  k_with "M call ref" => ((fail_if_success (have := endOfLawH3)); case' FRESH => ((k_here; (with_reducible show wpAny _ _ (call (Value.ref 327) _ _) _ _ _); k_dflt (refine' term_use (n := 1) ?C ?F ?X ?T ?N ?U ?hdo ?hr ?hi ?R ?h0 ?h1 ?hlen ?hfl ?_; (case hfl => rfl); (case F => k_asm); (case X => k_asm); (case T => k_asm); (case N => k_asm); (case U => k_updF); (case hdo => assumption); (case hr => exact Live.get (P := fun h => h.IsList _ _) (by assumption) (by k_asm) (by k_asm) (by k_all)); (case hi => k_asm); (case R => exact Rm.le (Rm.deeper (by assumption)) (by decide)); (case h0 => omega); (case h1 => (simp only [cost]); omega); (case hlen => assumption); (case C => exact term_all _); k_whole); intro t' v' h' o' tk' at2' tl' hpl' ht' ha' hb' hf' F' N' hq' hA' hv'; (try simp only [List.cons_append, List.nil_append] at N'))))
  trivial
theorem w195 : True := by
  k_with "M call ref" => ((fail_if_success (have := endOfLawH3)); case' FRESH => ((k_here; (with_reducible show wpAny _ _ (call (Value.ref 320) _ _) _ _ _); k_dflt (refine' pick_use ?F ?X ?T ?N ?U ?hdo ?hr ?hi ?R ?h0 ?h1 ?hm ?hm' ?hlen ?_; (case F => k_asm); (case X => k_asm); (case T => k_asm); (case N => k_asm); (case U => k_updF); (case hdo => assumption); (case hr => exact Live.get (P := fun h => h.IsList _ _) (by assumption) (by k_asm) (by k_asm) (by k_all)); (case hi => k_asm); (case R => exact Rm.le (Rm.deeper (by assumption)) (by omega)); (case h0 => omega); (case h1 => omega); (case hm => omega); (case hm' => omega); (case hlen => assumption); k_whole); intro k' tv' h' o' tk' hk1' hk2' hf' F' N' _; (try dsimp only at N'))))
  trivial
theorem w196 : True := by
  k_with "M subscriptTail Name Slice ref ref" => ((fail_if_success (have := endOfLawH3)); case' FRESH => ((k_here; (with_reducible show wpAny _ _ (subscriptTail _ (PySem.Expr.Slice _ _ (some _) _) (Value.ref _) (Value.ref _)) _ _ _); k_dflt (refine' pair_rev ?F ?N ?t ?p ?q ?k ?_ ?s ?g; (case F => k_asm); (case N => k_asm); (case t => exact News.isTup (by k_asm) (by k_mem)); (case p => kmk_part); (case q => kmk_part); (case k => kmk_part); (case s => with_unfolding_all rfl); (case g => kmk_pure); k_whole); intro D' h' F' N' l1; (try k_lt l1))))
  trivial
theorem w197 : True := by
  k_with "M eval Name" => ((fail_if_success (have := endOfLawH3)); case' FRESH => ((k_here; (with_reducible show wpAny _ _ (eval (PySem.Expr.Name "told" _) _) _ _ _); k_dflt (refine' nameX_C ?N ?c ?m ?d ?_ ?a ?b; (case a => rfl); (case b => rfl); (case N => k_asm); (case c => rfl); (case m => exact sub_get (by assumption) (by k_all)); (case d => assumption); k_whole))))
  trivial
theorem w198 : True := by
  k_with "M call builtin:len" => ((fail_if_success (have := endOfLawH3)); case' FRESH => ((k_here; (with_reducible show wpAny _ _ (call (Value.builtin _) [Value.ref _]) _ _ _); k_dflt (refine' len_old ?l ?z ?_; (case l => exact Live.get (P := fun h => h.IsList _ _) (by assumption) (by k_asm) (by k_asm) (by k_all)); (case z => omega)); intro t')))
  trivial
theorem w199 : True := by
  k_with "M subscriptTail" => ((fail_if_success (have := endOfLawH3)); case' FRESH => ((k_here; (with_reducible show wpAny _ _ (subscriptTail _ _ (Value.ref _) (Value.int _ _)) _ _ _); k_dflt (refine' piece_use ?l ?I ?a ?b ?z ?p ?_ ?s ?g; (case l => exact Live.get (P := fun h => h.IsList _ _) (by assumption) (by k_asm) (by k_asm) (by k_all)); (case I => assumption); (case a => omega); (case b => omega); (case z => omega); (case p => assumption); (case s => with_unfolding_all rfl); (case g => kmk_pure); k_whole); intro pc' vp' va' x' hT' hv' hp' hh')))
  trivial
theorem w200 : True := by
  k_with "M setItem ref str" => ((fail_if_success (have := endOfLawH3)); case' FRESH => ((k_here; (with_reducible show wpAny _ _ (setItem (Value.ref _) (Value.str _ _) _) _ _ _); k_dflt (refine' setStr_use ?F ?N ?U ?d ?z ?_; (case F => k_asm); (case N => k_asm); (case U => k_updF); (case d => assumption); (case z => omega); k_whole); intro h' o' hd' ht' F' N'; (try dsimp only at N'))))
  trivial
section
variable {prog : Program} {w : World} {p : Program} {loose : List Str} {mean : ExcName → Option Value} {mg mb : Str → Option Value}
variable {A : Around} {s : Shared} {h₀ H : Heap} {L : Addr} {m : Str → Option Value} {nw : List (Addr × Obj)} {E : Value → Shared → Prop}
variable {name qual : Str} {params : Arguments} {body : List Stmt} {scope : Scope} {dV kV doc pm cdv ct oc cd : Value} {an od : Option Addr} {osl : Array (Option Value)} {f : Addr}
/-- one turn of the loop that fills told -/
def Body3 (prog : Program) (w : World) (p : Program) (loose : List Str) (mean : ExcName → Option Value) (mg mb : Str → Option Value) (kk : Int) (key : Str) : Prop :=
  ∀ (A : Around) (s : Shared) (h₀ : Heap) (L : Addr) (m : Str → Option Value) (nw : List (Addr × Obj)) (E : Value → Shared → Prop) (name qual : Str) (params : Arguments) (body : List Stmt) (scope : Scope) (dV kV doc pm cdv ct oc cd : Value) (an od : Option Addr) (osl : Array (Option Value)) (f : Addr)
    (fd row td l2 : Addr) (o oC odd : Obj) (t : Tm) (vs2 rvs : List Value) (rns : List Int) (at' : Int) (tk : Tok) (kvs : List (Str × Value)) (Q : Flow → Shared → Prop),
    (hd.heap_1 w.params).lookup 351 = some ⟨oc, od, .func (fnOf name qual params body scope dV kV doc pm an cdv ct), osl⟩ →
    Fr h₀ L s.heap m → (hd.heap_1 w.params).In h₀ → Top p loose mean mg mb h₀ → News h₀ L s.heap ((td, odd) :: (fd, o) :: nw) → Rm A 81 →
    FeedObj prog w row at' o → (Live h₀ L nw fun h => h.IsList row rvs.toArray) → IntsAre rvs rns → rns.length ≤ 40 → 0 ≤ at' → at' < 500 → (∀ q ∈ nw, q.1 ≠ fd) → (∀ q ∈ nw, q.1 ≠ td) → NeA td fd →
    (Live h₀ L nw fun h => h.IsList l2 vs2.toArray) → ItL (Tp h₀ nw) vs2 (partsL t) → t.Plain → 1 ≤ vs2.length → vs2.length ≤ 40 → t.height ≤ 3 →
    odd.IsDictOf (strKind prog w) kvs → kvs.length ≤ 5 → tupObj odd = false → (L + 1, oC) ∈ nw → oC.data = .cell (some (.ref td)) →
    m (Str.ofString "feed") = some (.ref fd) → m (Str.ofString "pieces") = some (.ref l2) → m (Str.ofString "k") = some (.int kk tk) →
    (∀ {h' tk' odd' o' at2 P l r} {a b : Tm} {nw' mm}, odd'.IsDictOf (strKind prog w) (stored kvs key (.ref P)) → tupObj odd' = false → FeedObj prog w row at2 o' → at' ≤ at2 → at2 ≤ at' + 10 → (∀ q ∈ nw, q ∈ nw') → (∀ q ∈ nw', q.1 ≠ fd) → (∀ q ∈ nw', q.1 ≠ td) → Tp h₀ nw' P #[l, r] → Tv (Tp h₀ nw') l a.py → Tv (Tp h₀ nw') r b.py → Drawn3 a → Drawn3 b →
      Fr h₀ L h' (fun y => if y = Str.ofString "pair" then some mm else m y) → News h₀ L h' ((td, odd') :: (fd, o') :: nw') → Q .next { s with heap := h', toks := tk' }) →
    wpAny (model prog w) (A.deeper (envOfC qual scope L f cd)) (execs (forB (stN 3 body)) (envOfC qual scope L f cd)) Q E s
set_option maxRecDepth 100000 in
set_option maxHeartbeats 1000000 in
theorem body30 : Body3 prog w p loose mean mg mb 0 t0 := by
  intro A s h₀ L m nw E name qual params body scope dV kV doc pm cdv ct oc cd an od osl f fd row td l2 o oC odd t vs2 rvs rns at' tk kvs Q hb F X T N Rr hdo hr hri hrl ha0 ha1 hne hne2 hft hpc hI hp hz hz2 hth hod hkv hto hC hCd m1 m2 m3 h
  obtain ⟨hA, dA, fA, gA, uA⟩ := A
  obtain rfl : hA = none := Rr.hh
  refine' fn_elim hb ?e ?k
  case e => k_dflt k_is
  case k =>
    rintro rfl rfl rfl
    dsimp only [stN, forB, hdS, List.drop, List.take]
    refine (?_ : let mM' := _; let aA' := _; wpAny mM' aA' _ _ _ _); intro mM' aA'
    (try k_fold)
    k_steps
    rename Fr _ _ _ _ => F9
    rename News _ _ _ _ => N9
    refine' h ?a ?b ?c ?d ?e ?f ?g ?i ?j ?k1 ?k2 ?l ?n F9 (News.sel3 N9)
    case a => rw [← key0]; assumption
    case b => assumption
    case c => assumption
    case j => exact .inr ⟨_, .head _, rfl, _, rfl⟩
    case f => k_all
    case d => omega
    case e => (simp only [cost] at *); omega
    case g => k_all
    case i => k_all
    case k1 => exact Tv.grow (by assumption) (by k_all)
    case k2 => exact Tv.grow (by assumption) (by k_all)
    case l => exact drawn_three (by assumption) (by omega)
    case n => exact drawn_three (by assumption) (by omega)
end
end
theorem endOfLawH3 : True := trivial
/-! LawH4 -/
section
open PyProof.Rows.LCg
theorem News.sel4 {h₀ h : Heap} {L : Addr} {a a' b c : Addr × Obj} {r : List (Addr × Obj)} (N : News h₀ L h (a :: a' :: b :: c :: r)) : News h₀ L h (b :: c :: a :: r) := News.sel3 fun q hq => N q (by
  rcases List.mem_cons.mp hq with rfl | hq
  · exact .head _
  · exact .tail _ (.tail _ hq))
theorem w201 : True := by
  k_with "M eval Name" => ((fail_if_success (have := endOfLawH4)); case' FRESH => ((k_here; k_dflt (refine' nameX_L ?F ?v ?_ ?a ?b; (case F => k_asm); (case a => rfl); (case b => rfl); (case v => assumption); k_whole))))
  trivial
theorem w202 : True := by
  k_with "M call ref" => ((fail_if_success (have := endOfLawH4)); case' FRESH => ((k_here; (with_reducible show wpAny _ _ (call (Value.ref 327) _ _) _ _ _); k_dflt (refine' term_use (n := 1) ?C ?F ?X ?T ?N ?U ?hdo ?hr ?hi ?R ?h0 ?h1 ?hlen ?hfl ?_; (case hfl => rfl); (case F => k_asm); (case X => k_asm); (case T => k_asm); (case N => k_asm); (case U => k_updF); (case hdo => assumption); (case hr => exact Live.get (P := fun h => h.IsList _ _) (by assumption) (by k_asm) (by k_asm) (by k_all)); (case hi => k_asm); (case R => exact Rm.le (Rm.deeper (by assumption)) (by decide)); (case h0 => omega); (case h1 => (simp only [cost]); omega); (case hlen => assumption); (case C => exact term_all _); k_whole); intro t' v' h' o' tk' at2' tl' hpl' ht' ha' hb' hf' F' N' hq' hA' hv'; (try simp only [List.cons_append, List.nil_append] at N'))))
  trivial
theorem w203 : True := by
  k_with "M call ref" => ((fail_if_success (have := endOfLawH4)); case' FRESH => ((k_here; (with_reducible show wpAny _ _ (call (Value.ref 320) _ _) _ _ _); k_dflt (refine' pick_use ?F ?X ?T ?N ?U ?hdo ?hr ?hi ?R ?h0 ?h1 ?hm ?hm' ?hlen ?_; (case F => k_asm); (case X => k_asm); (case T => k_asm); (case N => k_asm); (case U => k_updF); (case hdo => assumption); (case hr => exact Live.get (P := fun h => h.IsList _ _) (by assumption) (by k_asm) (by k_asm) (by k_all)); (case hi => k_asm); (case R => exact Rm.le (Rm.deeper (by assumption)) (by omega)); (case h0 => omega); (case h1 => omega); (case hm => omega); (case hm' => omega); (case hlen => assumption); k_whole); intro k' tv' h' o' tk' hk1' hk2' hf' F' N' _; (try dsimp only at N'))))
  trivial
theorem w204 : True := by
  k_with "M subscriptTail Name Slice ref ref" => ((fail_if_success (have := endOfLawH4)); case' FRESH => ((k_here; (with_reducible show wpAny _ _ (subscriptTail _ (PySem.Expr.Slice _ _ (some _) _) (Value.ref _) (Value.ref _)) _ _ _); k_dflt (refine' pair_rev ?F ?N ?t ?p ?q ?k ?_ ?s ?g; (case F => k_asm); (case N => k_asm); (case t => exact News.isTup (by k_asm) (by k_mem)); (case p => kmk_part); (case q => kmk_part); (case k => kmk_part); (case s => with_unfolding_all rfl); (case g => kmk_pure); k_whole); intro D' h' F' N' l1; (try k_lt l1))))
  trivial
theorem w205 : True := by
  k_with "M eval Name" => ((fail_if_success (have := endOfLawH4)); case' FRESH => ((k_here; (with_reducible show wpAny _ _ (eval (PySem.Expr.Name "told" _) _) _ _ _); k_dflt (refine' nameX_C ?N ?c ?m ?d ?_ ?a ?b; (case a => rfl); (case b => rfl); (case N => k_asm); (case c => rfl); (case m => exact sub_get (by assumption) (by k_all)); (case d => assumption); k_whole))))
  trivial
theorem w206 : True := by
  k_with "M call builtin:len" => ((fail_if_success (have := endOfLawH4)); case' FRESH => ((k_here; (with_reducible show wpAny _ _ (call (Value.builtin _) [Value.ref _]) _ _ _); k_dflt (refine' len_old ?l ?z ?_; (case l => exact Live.get (P := fun h => h.IsList _ _) (by assumption) (by k_asm) (by k_asm) (by k_all)); (case z => omega)); intro t')))
  trivial
theorem w207 : True := by
  k_with "M subscriptTail" => ((fail_if_success (have := endOfLawH4)); case' FRESH => ((k_here; (with_reducible show wpAny _ _ (subscriptTail _ _ (Value.ref _) (Value.int _ _)) _ _ _); k_dflt (refine' piece_use ?l ?I ?a ?b ?z ?p ?_ ?s ?g; (case l => exact Live.get (P := fun h => h.IsList _ _) (by assumption) (by k_asm) (by k_asm) (by k_all)); (case I => assumption); (case a => omega); (case b => omega); (case z => omega); (case p => assumption); (case s => with_unfolding_all rfl); (case g => kmk_pure); k_whole); intro pc' vp' va' x' hT' hv' hp' hh')))
  trivial
theorem w208 : True := by
  k_with "M setItem ref str" => ((fail_if_success (have := endOfLawH4)); case' FRESH => ((k_here; (with_reducible show wpAny _ _ (setItem (Value.ref _) (Value.str _ _) _) _ _ _); k_dflt (refine' setStr_use ?F ?N ?U ?d ?z ?_; (case F => k_asm); (case N => k_asm); (case U => k_updF); (case d => assumption); (case z => omega); k_whole); intro h' o' hd' ht' F' N'; (try dsimp only at N'))))
  trivial
section
variable {prog : Program} {w : World} {p : Program} {loose : List Str} {mean : ExcName → Option Value} {mg mb : Str → Option Value}
variable {A : Around} {s : Shared} {h₀ H : Heap} {L : Addr} {m : Str → Option Value} {nw : List (Addr × Obj)} {E : Value → Shared → Prop}
variable {name qual : Str} {params : Arguments} {body : List Stmt} {scope : Scope} {dV kV doc pm cdv ct oc cd : Value} {an od : Option Addr} {osl : Array (Option Value)} {f : Addr}
set_option maxRecDepth 100000 in
set_option maxHeartbeats 1000000 in
theorem body31 : Body3 prog w p loose mean mg mb 1 t1 := by
  intro A s h₀ L m nw E name qual params body scope dV kV doc pm cdv ct oc cd an od osl f fd row td l2 o oC odd t vs2 rvs rns at' tk kvs Q hb F X T N Rr hdo hr hri hrl ha0 ha1 hne hne2 hft hpc hI hp hz hz2 hth hod hkv hto hC hCd m1 m2 m3 h
  obtain ⟨hA, dA, fA, gA, uA⟩ := A
  obtain rfl : hA = none := Rr.hh
  refine' fn_elim hb ?e ?k
  case e => k_dflt k_is
  case k =>
    rintro rfl rfl rfl
    dsimp only [stN, forB, hdS, List.drop, List.take]
    refine (?_ : let mM' := _; let aA' := _; wpAny mM' aA' _ _ _ _); intro mM' aA'
    (try k_fold)
    k_steps
    rename Fr _ _ _ _ => F9
    rename News _ _ _ _ => N9
    refine' h ?a ?b ?c ?d ?e ?f ?g ?i ?j ?k1 ?k2 ?l ?n F9 (News.sel4 N9)
    case a => rw [← key1]; assumption
    case b => assumption
    case c => assumption
    case j => exact .inr ⟨_, .head _, rfl, _, rfl⟩
    case f => k_all
    case d => omega
    case e => (simp only [cost] at *); omega
    case g => k_all
    case i => k_all
    case k1 => exact Tv.grow (by assumption) (by k_all)
    case k2 => exact Tv.grow (by assumption) (by k_all)
    case l => exact drawn_three (by assumption) (by omega)
    case n => exact drawn_three (by assumption) (by omega)
end
end
theorem endOfLawH4 : True := trivial
/-! LawH5 -/
section
open PyProof.Rows.LCg
section
variable {prog : Program} {w : World} {A : Around} {E : Value → Shared → Prop} {s : Shared} {env : Env} {h₀ : Heap} {body : List Stmt} {Q : Flow → Shared → Prop} {m : Str → Option Value} {news : List (Addr × Obj)}
theorem iter_range2 {x : Str} {px : Pos} {r : Addr} {t u v : Tok} (hh : A.handled = none) (F : Fr h₀ env.locals s.heap m) (N : News h₀ env.locals s.heap news) (hr : IsRange s.heap r 0 2 1 t u v)
    (rest : ∀ I : Addr, (∀ p ∈ news, p.1 < I) → RestD prog w A h₀ env (.Name x px) body Q E s I (fun _ => True) [fun y => ∃ t, y = .int 0 t, fun y => ∃ t, y = .int 1 t] m news) :
    wpAny (model prog w) A (pyIter (.ref r)) (fun it s₂ => LoopG prog w A env (.Name x px) body Q E it s₂) E s := by
  refine wpAny_pyIter_range hr (by decide +kernel) ?_
  have W := Walks.range (prog := prog) (w := w) hh s.heap.objs.size 0 1 2
  have S : Src prog w A (.Name x px) s.heap.objs.size [s.heap.objs.size] [s.heap.objs.size] 2 (fun i v _ _ => i < 2 ∧ ∃ t, v = .int ((0 : Int) + (i : Nat) * 1) t) (fun i h => IsRangeIter h s.heap.objs.size (0 + (i : Nat) * 1) (((2 : Nat) : Int) - (i : Nat)) 1) :=
    { frame := W.frame
      step := fun i s Z Q E hi st h => W.item i s _ E hi st fun v h' tk' hp st' hk => by
        show wpAny _ _ (letOwnedTupleGo (.Name x px) _ v) _ _ _
        unfold letOwnedTupleGo
        exact wpAny_pure (h v h' tk' ⟨hi, hp⟩ st' hk)
      done := fun s Q E st h => W.done s Q E st fun h' tk' hk => h h' tk' hk }
  refine iter_restD (ps := [fun y => ∃ t, y = .int 0 t, fun y => ∃ t, y = .int 1 t]) S (fun i v _ _ hp => ?_) (fun h h' k1 k2 oI h1 h2 i st => ?_) (fun h h' kb k => trivial) (fun i h st => ⟨_, st, rfl⟩) ⟨_, _, _, rfl⟩ ?_ trivial (F.push _) (fun p hp => ⟨Heap.get?_push_of_some _ (N p hp).1, (N p hp).2⟩)
    (Nat.ne_of_gt F.ns.lt) (PyProof.Rows.Fr.fresh F) (fun p hp => Nat.ne_of_lt (Heap.lt_size (N p hp).1)) (rest _ fun p hp => Heap.lt_size (N p hp).1)
  · obtain ⟨hi, t, rfl⟩ := hp
    match i, hi with
    | 0, _ => exact ⟨_, rfl, t, rfl⟩
    | 1, _ => exact ⟨_, rfl, t, rfl⟩
  · have e := h1.symm.trans st
    cases e
    exact h2
  · exact Heap.get?_push_size _ rfl
end
theorem stored1 {v : Value} : stored ([] : List (Str × Value)) t0 v = [(t0, v)] := rfl
theorem stored2 {v u : Value} : stored [(t0, v)] t1 u = [(t0, v), (t1, u)] := by
  have e : ([(t0, v)] : List (Str × Value)).any (fun kv => kv.1 = t1) = false := by
    have : (t0 = t1) = False := by decide +kernel
    simp [this]
  unfold stored
  rw [e]
  rfl
/-- a ledger without the iterator -/
structure Kept (h₀ : Heap) (L : Addr) (h : Heap) (I : Addr) (oI : Obj) (td fd : Addr) (od o : Obj) (nw : List (Addr × Obj)) : Prop where
  news : News h₀ L h ((td, od) :: (fd, o) :: nw) → News h₀ L h ((I, oI) :: (td, od) :: (fd, o) :: nw.filter (fun q => decide (q.1 ≠ I)))
  apart : I ≠ td → I ≠ fd → ∀ q ∈ (td, od) :: (fd, o) :: nw.filter (fun q => decide (q.1 ≠ I)), q.1 ≠ I
  tp : ∀ {c us}, Tp h₀ nw c us → Tp h₀ (nw.filter (fun q => decide (q.1 ≠ I))) c us
theorem Kept.mk' {h₀ : Heap} {L : Addr} {h : Heap} {I : Addr} {oI : Obj} {td fd : Addr} {od o : Obj} {nw : List (Addr × Obj)} (N : News h₀ L h ((td, od) :: (fd, o) :: nw)) (hm : (I, oI) ∈ nw) (ht : tupObj oI = false) : Kept h₀ L h I oI td fd od o nw where
  news := fun N q hq => by
    rcases List.mem_cons.mp hq with rfl | hq
    · exact N _ (.tail _ (.tail _ hm))
    · rcases List.mem_cons.mp hq with rfl | hq
      · exact N _ (.head _)
      · rcases List.mem_cons.mp hq with rfl | hq
        · exact N _ (.tail _ (.head _))
        · exact N _ (.tail _ (.tail _ ((List.mem_filter.mp hq).1)))
  apart := fun a b q hq => by
    rcases List.mem_cons.mp hq with rfl | hq
    · exact Ne.symm a
    · rcases List.mem_cons.mp hq with rfl | hq
      · exact Ne.symm b
      · exact of_decide_eq_true (List.mem_filter.mp hq).2
  tp := fun {c us} x => by
    rcases x with x | ⟨oc, hc, e1, n, e2⟩
    · exact .inl x
    · refine .inr ⟨oc, List.mem_filter.mpr ⟨hc, decide_eq_true fun q => ?_⟩, e1, n, e2⟩
      have q : c = I := q
      subst q
      have h1 := (N _ (.tail _ (.tail _ hc))).1
      have h2 := (N _ (.tail _ (.tail _ hm))).1
      rw [h1] at h2
      cases h2
      rw [isTup_obj e1 e2] at ht
      cases ht
theorem w209 : True := by
  k_with "M pyIter ref" => ((fail_if_success (have := endOfLawH5)); case' FRESH => ((refine Stop.in ?_)))
  trivial
theorem w210 : True := by
  k_with "M exec For Name Call cons nil" => ((fail_if_success (have := endOfLawH5)); case' FRESH => ((k_here; k_dflt (refine' for_gen ?_ ?hs ?hE; (case hs => intro _; with_unfolding_all rfl); (case hE => assumption); k_whole))))
  trivial
section
variable {prog : Program} {w : World} {p : Program} {loose : List Str} {mean : ExcName → Option Value} {mg mb : Str → Option Value}
variable {A : Around} {s : Shared} {h₀ H : Heap} {L : Addr} {m : Str → Option Value} {nw : List (Addr × Obj)} {E : Value → Shared → Prop}
variable {name qual : Str} {params : Arguments} {body : List Stmt} {scope : Scope} {dV kV doc pm cdv ct oc cd : Value} {an od : Option Addr} {osl : Array (Option Value)} {f : Addr}
set_option maxRecDepth 100000 in
set_option maxHeartbeats 1000000 in
theorem head3 (hb : (hd.heap_1 w.params).lookup 351 = some ⟨oc, od, .func (fnOf name qual params body scope dV kV doc pm an cdv ct), osl⟩)
    {fd row td l2 : Addr} {o oC odd : Obj} {t : Tm} {vs2 rvs : List Value} {rns : List Int} {at' : Int} {Q : Flow → Shared → Prop} (hE : PassesOwn (model prog w) (A.deeper (envOfC qual scope L f cd)) (envOfC qual scope L f cd) E)
    (F : Fr h₀ L s.heap m) (X : (hd.heap_1 w.params).In h₀) (T : Top p loose mean mg mb h₀) (N : News h₀ L s.heap ((td, odd) :: (fd, o) :: nw)) (Rr : Rm A 81)
    (hdo : FeedObj prog w row at' o) (hr : Live h₀ L nw fun h => h.IsList row rvs.toArray) (hri : IntsAre rvs rns) (hrl : rns.length ≤ 40) (ha0 : 0 ≤ at') (ha1 : at' < 400) (hne : ∀ q ∈ nw, q.1 ≠ fd) (hne2 : ∀ q ∈ nw, q.1 ≠ td) (hft : NeA td fd)
    (hpc : Live h₀ L nw fun h => h.IsList l2 vs2.toArray) (hI9 : ItL (Tp h₀ nw) vs2 (partsL t)) (hp : t.Plain) (hz : 1 ≤ vs2.length) (hz2 : vs2.length ≤ 40) (hth : t.height ≤ 3)
    (hod : odd.IsDictOf (strKind prog w) []) (hC : (L + 1, oC) ∈ nw) (hCd : oC.data = .cell (some (.ref td)))
    (m1 : m (Str.ofString "feed") = some (.ref fd)) (m2 : m (Str.ofString "pieces") = some (.ref l2))
    (h : ∀ {h' d tk' odd' o' at2} {P : Bool → Addr} {l r : Bool → Value} {a b : Bool → Tm} {nw' m'}, odd'.IsDictOf (strKind prog w) [(t0, .ref (P false)), (t1, .ref (P true))] → FeedObj prog w row at2 o' → at' ≤ at2 → at2 ≤ at' + 20 → (∀ q ∈ nw, q ∈ nw') → (∀ q ∈ nw', q.1 ≠ fd) → (∀ q ∈ nw', q.1 ≠ td) → (∀ c, Tp h₀ nw' (P c) #[l c, r c]) → (∀ c, Tv (Tp h₀ nw') (l c) (a c).py) → (∀ c, Tv (Tp h₀ nw') (r c) (b c).py) → (∀ c, Drawn3 (a c)) → (∀ c, Drawn3 (b c)) →
      (∀ n, n ≠ Str.ofString "k" → n ≠ Str.ofString "pair" → m' n = m n) → Fr h₀ L h' m' → News h₀ L h' ((td, odd') :: (fd, o') :: nw') → Q .next { s with heap := h', drawn := d, toks := tk' }) :
    wpAny (model prog w) (A.deeper (envOfC qual scope L f cd)) (exec (hdS (stN 3 body)) (envOfC qual scope L f cd)) Q E s := by
  obtain ⟨hA, dA, fA, gA, uA⟩ := A
  obtain rfl : hA = none := Rr.hh
  have b0 := @body30 prog w p loose mean mg mb ⟨none, dA, fA, gA, uA⟩
  have b1 := @body31 prog w p loose mean mg mb ⟨none, dA, fA, gA, uA⟩
  replace b0 := fun s m nw E => b0 s h₀ L m nw E name qual params body scope dV kV doc pm cdv ct oc cd an od osl f
  replace b1 := fun s m nw E => b1 s h₀ L m nw E name qual params body scope dV kV doc pm cdv ct oc cd an od osl f
  refine' fn_elim hb ?e ?k
  case e => k_dflt k_is
  case k =>
    rintro rfl rfl rfl
    dsimp only [stN, forB, hdS, List.drop, List.take] at b0 b1 ⊢
    refine (?_ : let mM' := _; let aA' := _; wpAny mM' aA' _ _ _ _); intro mM' aA'
    (try k_fold)
    k_steps
    refine Stop.out ?_
    rename Fr _ _ _ _ => F9
    rename News _ _ _ _ => N9
    rename IsRange _ _ _ _ _ _ _ _ => hr9
    refine iter_range2 rfl F9 N9 hr9 fun I hI => ?_
    refine RestD.succ fun v oI h1 d1 tk1 hv hoI F1 N1 => ?_
    obtain ⟨tv, rfl⟩ := hv
    refine assign_Name (storeX_L F1 N1 (fun h2 F2 N2 => ?_) rfl rfl)
    have hIt : td ≠ I := Nat.ne_of_lt (hI (td, odd) (.head _))
    have hIf : fd ≠ I := Nat.ne_of_lt (hI (fd, o) (.tail _ (.head _)))
    have hIn : ∀ q ∈ nw, q.1 ≠ I := fun q hq => Nat.ne_of_lt (hI q (.tail _ (.tail _ hq)))
    have up1 : ∀ q ∈ nw, q ∈ (I, oI) :: nw := fun q hq => .tail _ hq
    refine b0 _ _ _ _ _ _ _ _ _ _ _ _ _ _ _ _ _ _ _ hb F2 X T (News.sel3 N2) Rr hdo (hr.up up1) hri hrl ha0 (by omega) (cons_ne (Ne.symm hIf) hne) (cons_ne (Ne.symm hIt) hne2) hft (hpc.up up1) (hI9.mono fun _ _ z => Tp.grow up1 z) hp hz hz2 hth hod (by decide) (dict_noTup hod) (up1 _ hC) hCd
      ((if_neg (by decide)).trans m1) ((if_neg (by decide)).trans m2) (if_pos rfl) fun {h3 tk3 odd3 o3 at3 P0 l0 r0 a0 b0' nw3 mm3} q1 q2 q3 q4 q5 q6 q7 q8 q9 q10 q11 q12 q13 F3 N3 => ?_
    have K3 := Kept.mk' (I := I) (oI := oI) N3 (q6 _ (.head _)) hoI
    have up3 : ∀ q ∈ nw, q ∈ nw3.filter (fun q => decide (q.1 ≠ I)) := fun q hq => List.mem_filter.mpr ⟨q6 _ (up1 _ hq), decide_eq_true (hIn q hq)⟩
    refine UEndD.intro (l := (I, oI) :: (td, odd3) :: (fd, o3) :: nw3.filter (fun q => decide (q.1 ≠ I))) F3 (K3.news N3) .here (K3.apart (Ne.symm hIt) (Ne.symm hIf)) trivial ?_
    refine RestD.succ fun v oI2 h4 d4 tk4 hv hoI2 F4 N4 => ?_
    obtain ⟨tv4, rfl⟩ := hv
    refine assign_Name (storeX_L F4 N4 (fun h5 F5 N5 => ?_) rfl rfl)
    have up4 : ∀ q ∈ nw3.filter (fun q => decide (q.1 ≠ I)), q ∈ (I, oI2) :: nw3.filter (fun q => decide (q.1 ≠ I)) := fun q hq => .tail _ hq
    have up5 : ∀ q ∈ nw, q ∈ (I, oI2) :: nw3.filter (fun q => decide (q.1 ≠ I)) := fun q hq => up4 _ (up3 q hq)
    refine b1 _ _ _ _ _ _ _ _ _ _ _ _ _ _ _ _ _ [(t0, .ref P0)] _ hb F5 X T (News.sel3 N5) Rr q3 (hr.up up5) hri hrl (by omega) (by omega) (cons_ne (Ne.symm hIf) fun q hq => q7 q ((List.mem_filter.mp hq).1)) (cons_ne (Ne.symm hIt) fun q hq => q8 q ((List.mem_filter.mp hq).1)) hft (hpc.up up5) (hI9.mono fun _ _ z => Tp.grow up5 z) hp hz hz2 hth (by rw [← stored1]; exact q1) (by show 1 ≤ 5; decide) q2 (up5 _ hC) hCd
      ((if_neg (by decide)).trans ((if_neg (by decide)).trans ((if_neg (by decide)).trans m1))) ((if_neg (by decide)).trans ((if_neg (by decide)).trans ((if_neg (by decide)).trans m2))) (if_pos rfl) fun {h6 tk6 odd6 o6 at6 P1 l1 r1 a1 b1' nw6 mm6} z1 z2 z3 z4 z5 z6 z7 z8 z9 z10 z11 z12 z13 F6 N6 => ?_
    have K6 := Kept.mk' (I := I) (oI := oI2) N6 (z6 _ (.head _)) hoI2
    refine UEndD.intro (l := (I, oI2) :: (td, odd6) :: (fd, o6) :: nw6.filter (fun q => decide (q.1 ≠ I))) F6 (K6.news N6) .here (K6.apart (Ne.symm hIt) (Ne.symm hIf)) trivial ?_
    refine RestD.zero fun h7 d7 tk7 F7 N7 => ?_
    have up6 : ∀ q ∈ nw3.filter (fun q => decide (q.1 ≠ I)), q ∈ nw6.filter (fun q => decide (q.1 ≠ I)) := fun q hq => List.mem_filter.mpr ⟨z6 _ (up4 _ hq), (List.mem_filter.mp hq).2⟩
    have T0 : ∀ {c us}, Tp h₀ nw3 c us → Tp h₀ (nw6.filter (fun q => decide (q.1 ≠ I))) c us := fun z => Tp.grow up6 (K3.tp z)
    have T1 : ∀ {c us}, Tp h₀ nw6 c us → Tp h₀ (nw6.filter (fun q => decide (q.1 ≠ I))) c us := fun z => K6.tp z
    refine h (P := fun c => bif c then P1 else P0) (l := fun c => bif c then l1 else l0) (r := fun c => bif c then r1 else r0) (a := fun c => bif c then a1 else a0) (b := fun c => bif c then b1' else b0') (by rw [← stored2]; exact z1) z3 (by omega) (by omega) (fun q hq => up6 _ (up3 _ hq)) (fun q hq => z7 q ((List.mem_filter.mp hq).1)) (fun q hq => z8 q ((List.mem_filter.mp hq).1)) ?c1 ?c2 ?c3 ?c4 ?c5 ?c6 F7 N7
    case c1 => intro c; cases c; exact T0 q9; exact T1 z9
    case c2 => intro c; cases c; exact q10.mono fun _ _ z => T0 z; exact z10.mono fun _ _ z => T1 z
    case c3 => intro c; cases c; exact q11.mono fun _ _ z => T0 z; exact z11.mono fun _ _ z => T1 z
    case c4 => intro c; cases c; exact q12; exact z12
    case c5 => intro c; cases c; exact q13; exact z13
    case c6 =>
      intro n n1 n2
      rw [if_neg n2, if_neg n1, if_neg n2, if_neg n1]
end
end
theorem endOfLawH5 : True := trivial
/-! LawH6 -/
section
open PyProof.Rows.LCg
section
variable {prog : Program} {w : World} {A : Around} {s : Shared} {h₀ : Heap} {L : Addr} {m : Str → Option Value} {news : List (Addr × Obj)} {p : Program} {loose : List Str} {mean : ExcName → Option Value} {mg mb : Str → Option Value} {E : Value → Shared → Prop} {Q : Value → Shared → Prop}
theorem two_news {h' : Heap} {x dx : Addr} {ox od : Obj} (F : Fr h₀ L s.heap m) (N : News h₀ L s.heap news) (x1 : s.heap.get? x = none) (x2 : s.heap.get? dx = none) (k : Keep s.heap h') (o1 : h'.get? x = some ox) (o2 : h'.get? dx = some od) :
    Fr h₀ L h' m ∧ News h₀ L h' ((x, ox) :: (dx, od) :: news) ∧ (∀ p ∈ news, p.1 ≠ x) ∧ (∀ p ∈ news, p.1 ≠ dx) := by
  have F' := Fr.byKeep F k
  refine ⟨F', ?_, ne_of_none N x1, ne_of_none N x2⟩
  have n1 : x ≠ L := fun q => by obtain ⟨oL, es, ep, hL, _⟩ := F.ns; rw [q] at x1; have : s.heap.get? L = some oL := hL; rw [x1] at this; cases this
  have n2 : dx ≠ L := fun q => by obtain ⟨oL, es, ep, hL, _⟩ := F.ns; rw [q] at x2; have : s.heap.get? L = some oL := hL; rw [x2] at this; cases this
  have g1 : h₀.get? x = none := by cases q : h₀.get? x with | none => rfl | some o => rw [F.keep _ _ q] at x1; cases x1
  have g2 : h₀.get? dx = none := by cases q : h₀.get? dx with | none => rfl | some o => rw [F.keep _ _ q] at x2; cases x2
  intro q hq
  rcases List.mem_cons.mp hq with rfl | hq
  · exact ⟨o1, n1, g1⟩
  · rcases List.mem_cons.mp hq with rfl | hq
    · exact ⟨o2, n2, g2⟩
    · exact News.byKeep N k q hq
theorem ruleM_use {nm vl vr : Value} {nd : Addr} (F : Fr h₀ L s.heap m) (X : (hd.heap_1 w.params).In h₀) (T : Top p loose mean mg mb h₀) (N : News h₀ L s.heap news) (R : Rm A 8) (hnm : handedIn nm = true) (hl : Tv (IsTup s.heap) vl (Tm.bin (.leaf qx) (.leaf qy)).py) (hr : Tv (IsTup s.heap) vr (Tm.bin (.leaf qy) (.leaf qx)).py) (hn : IsTup s.heap nd #[])
    (h : ∀ h' dr tk R dR a b c d t u x y n v4, Fr h₀ L h' m → News h₀ L h' ((R, instObj 309 dR) :: (dR, dictOf [⟨a, .str (Str.ofString "name") t, nm⟩, ⟨b, .str (Str.ofString "left") u, vl⟩, ⟨c, .str (Str.ofString "right") x, vr⟩, ⟨d, .str (Str.ofString "needs") y, v4⟩] n) :: news) → (∀ p ∈ news, p.1 ≠ R) → (∀ p ∈ news, p.1 ≠ dR) → NeA dR R → Q (.ref R) { s with heap := h', drawn := dr, toks := tk }) :
    wpAny (model prog w) A (call (.ref 309) [nm, vl, vr, .ref nd]) Q E s := by
  refine mk_rule _ _ _ _ _ _ _ _ (X.keeps F.keep) (T.keeps F.keep) R hnm hl hr hn fun h' dr tk R dR a b c d t u x y n v4 x1 x2 ne k o1 o2 => ?_
  obtain ⟨F', N', n1, n2⟩ := two_news F N x1 x2 k o1 o2
  exact h _ _ _ _ _ _ _ _ _ _ _ _ _ _ _ F' N' n1 n2 ne
theorem judgeM_use {j k : Value} (F : Fr h₀ L s.heap m) (X : (hd.heap_1 w.params).In h₀) (T : Top p loose mean mg mb h₀) (N : News h₀ L s.heap news) (R : Rm A 3) (hj : handedIn j = true) (hk : handedIn k = true)
    (h : ∀ h' tk J dJ a b t u n, Fr h₀ L h' m → News h₀ L h' ((J, instObj 222 dJ) :: (dJ, dictOf [⟨a, .str (Str.ofString "rules") t, j⟩, ⟨b, .str (Str.ofString "told") u, k⟩] n) :: news) → (∀ p ∈ news, p.1 ≠ J) → (∀ p ∈ news, p.1 ≠ dJ) → NeA dJ J → Q (.ref J) { s with heap := h', toks := tk }) :
    wpAny (model prog w) A (call (.ref 222) [j, k]) Q E s := by
  refine mk_judge _ _ _ _ _ _ (X.keeps F.keep) (T.keeps F.keep) R hj hk fun h' tk J dJ a b t u n x1 x2 ne k o1 o2 => ?_
  obtain ⟨F', N', n1, n2⟩ := two_news F N x1 x2 k o1 o2
  exact h _ _ _ _ _ _ _ _ _ F' N' n1 n2 ne
theorem stepsM_use {j : Value} (F : Fr h₀ L s.heap m) (X : (hd.heap_1 w.params).In h₀) (T : Top p loose mean mg mb h₀) (N : News h₀ L s.heap news) (R : Rm A 3) (hj : handedIn j = true)
    (h : ∀ h' tk st dS a t n, Fr h₀ L h' m → News h₀ L h' ((st, instObj 283 dS) :: (dS, dictOf [⟨a, .str (Str.ofString "judge") t, j⟩] n) :: news) → (∀ p ∈ news, p.1 ≠ st) → (∀ p ∈ news, p.1 ≠ dS) → NeA dS st → Q (.ref st) { s with heap := h', toks := tk }) :
    wpAny (model prog w) A (call (.ref 283) [j]) Q E s := by
  refine mk_steps _ _ _ _ _ (X.keeps F.keep) (T.keeps F.keep) R hj fun h' tk st dS a t n x1 x2 ne k o1 o2 => ?_
  obtain ⟨F', N', n1, n2⟩ := two_news F N x1 x2 k o1 o2
  exact h _ _ _ _ _ _ _ F' N' n1 n2 ne
end
theorem News.front {h₀ h : Heap} {L : Addr} {l1 r : List (Addr × Obj)} {x : Addr × Obj} (N : News h₀ L h (l1 ++ x :: r)) : News h₀ L h (x :: (l1 ++ r)) := fun q hq => N q (by
  rcases List.mem_cons.mp hq with rfl | hq
  · exact List.mem_append_right _ (.head _)
  · rcases List.mem_append.mp hq with hq | hq
    · exact List.mem_append_left _ hq
    · exact List.mem_append_right _ (.tail _ hq))
theorem News.isTup' {h₀ h : Heap} {L a : Addr} {vs : Array Value} {n : Nat} {news : List (Addr × Obj)} (N : News h₀ L h news) (k : (a, { cls := .type "tuple", data := .seq vs n }) ∈ news) : IsTup h a vs := ⟨_, (N _ k).1, rfl, _, rfl⟩
theorem Tv.live {h₀ : Heap} {L : Addr} {tl nn : List (Addr × Obj)} {v : Value} {d : PyData} (x : Tv (Tp h₀ tl) v d) (k : ∀ p ∈ tl, p ∈ nn) : Live h₀ L nn fun h => Tv (IsTup h) v d := fun _ kp N => x.mono fun _ _ z => z.live k _ kp N
theorem w211 : True := by
  k_with "M eval Name" => ((fail_if_success (have := endOfLawH6)); case' FRESH => ((k_here; k_dflt (refine' nameX_L ?F ?v ?_ ?a ?b; (case F => k_asm); (case a => rfl); (case b => rfl); (case v => assumption); k_whole))))
  trivial
theorem w212 : True := by
  k_with "M eval Name" => ((fail_if_success (have := endOfLawH6)); case' FRESH => ((k_here; (with_reducible show wpAny _ _ (eval (PySem.Expr.Name "told" _) _) _ _ _); k_dflt (refine' nameX_C ?N ?c ?m ?d ?_ ?a ?b; (case a => rfl); (case b => rfl); (case N => k_asm); (case c => rfl); (case m => exact sub_get (by assumption) (by k_all)); (case d => assumption); k_whole))))
  trivial
theorem w213 : True := by
  k_with "M call ref" => ((fail_if_success (have := endOfLawH6)); case' FRESH => ((k_here; (with_reducible show wpAny _ _ (call (Value.ref 309) _) _ _ _); k_dflt (refine' ruleM_use ?F ?X ?T ?N ?R ?h ?l ?r ?n ?_; (case F => k_asm); (case X => k_asm); (case T => k_asm); (case N => k_asm); (case R => exact Rm.le (Rm.deeper (by assumption)) (by decide)); (case h => rfl); (case l => exact Tv.three (News.isTup (by k_asm) (by k_mem)) (.str _ _) (Tv.at (by assumption) (by k_asm) (by k_asm) (by k_all)) (Tv.at (by assumption) (by k_asm) (by k_asm) (by k_all))); (case r => exact Tv.three (News.isTup (by k_asm) (by k_mem)) (.str _ _) (Tv.at (by assumption) (by k_asm) (by k_asm) (by k_all)) (Tv.at (by assumption) (by k_asm) (by k_asm) (by k_all))); (case n => exact News.isTup (by k_asm) (by k_mem)); k_whole); intro h' dr' tk' R' dR' a' b' c' d' t' u' x' y' n' v4' F' N' l1 l2 l3)))
  trivial
theorem w214 : True := by
  k_with "M call ref" => ((fail_if_success (have := endOfLawH6)); case' FRESH => ((k_here; (with_reducible show wpAny _ _ (call (Value.ref 222) _) _ _ _); k_dflt (refine' judgeM_use ?F ?X ?T ?N ?R ?h ?l ?_; (case F => k_asm); (case X => k_asm); (case T => k_asm); (case N => k_asm); (case R => exact Rm.le (Rm.deeper (by assumption)) (by decide)); (case h => rfl); (case l => rfl); k_whole); intro h' tk' J' dJ' a' b' t' u' n' F' N' l1 l2 l3)))
  trivial
theorem w215 : True := by
  k_with "M call ref" => ((fail_if_success (have := endOfLawH6)); case' FRESH => ((k_here; (with_reducible show wpAny _ _ (call (Value.ref 283) _) _ _ _); k_dflt (refine' stepsM_use ?F ?X ?T ?N ?R ?h ?_; (case F => k_asm); (case X => k_asm); (case T => k_asm); (case N => k_asm); (case R => exact Rm.le (Rm.deeper (by assumption)) (by decide)); (case h => rfl); k_whole); intro h' tk' st' dS' a' t' n' F' N' l1 l2 l3)))
  trivial
section
variable {prog : Program} {w : World} {p : Program} {loose : List Str} {mean : ExcName → Option Value} {mg mb : Str → Option Value}
variable {A : Around} {s : Shared} {h₀ H : Heap} {L : Addr} {m : Str → Option Value} {nw : List (Addr × Obj)} {E : Value → Shared → Prop}
variable {name qual : Str} {params : Arguments} {body : List Stmt} {scope : Scope} {dV kV doc pm cdv ct oc cd : Value} {an od : Option Addr} {osl : Array (Option Value)} {f : Addr}
set_option maxRecDepth 100000 in
set_option maxHeartbeats 1000000 in
theorem head4 (hb : (hd.heap_1 w.params).lookup 351 = some ⟨oc, od, .func (fnOf name qual params body scope dV kV doc pm an cdv ct), osl⟩)
    {fd : Addr} {o : Obj} {Q : Flow → Shared → Prop}
    (F : Fr h₀ L s.heap m) (X : (hd.heap_1 w.params).In h₀) (T : Top p loose mean mg mb h₀) (N : News h₀ L s.heap ((fd, o) :: nw)) (Rr : Rm A 81) (hne : ∀ q ∈ nw, q.1 ≠ fd)
    (h : ∀ {h' tk' ax ay nw'}, (∀ q ∈ nw, q ∈ nw') → (∀ q ∈ nw', q.1 ≠ fd) → Tv (Tp h₀ nw') (.ref ax) (Tm.leaf qx).py → Tv (Tp h₀ nw') (.ref ay) (Tm.leaf qy).py → Fr h₀ L h' (fun z => if z = Str.ofString "y" then some (.ref ay) else if z = Str.ofString "x" then some (.ref ax) else m z) → News h₀ L h' ((fd, o) :: nw') → Q .next { s with heap := h', toks := tk' }) :
    wpAny (model prog w) (A.deeper (envOfC qual scope L f cd)) (exec (hdS (stN 4 body)) (envOfC qual scope L f cd)) Q E s := by
  obtain ⟨hA, dA, fA, gA, uA⟩ := A
  obtain rfl : hA = none := Rr.hh
  refine' fn_elim hb ?e ?k
  case e => k_dflt k_is
  case k =>
    rintro rfl rfl rfl
    dsimp only [stN, forB, hdS, List.drop, List.take]
    refine (?_ : let mM' := _; let aA' := _; wpAny mM' aA' _ _ _ _); intro mM' aA'
    (try k_fold)
    k_steps
    rename Fr _ _ _ _ => F9
    rename News _ _ _ _ => N9
    have N8 := News.front (l1 := [_, _]) (fun q hq => N9 q (.tail _ hq))
    simp only [List.cons_append, List.nil_append] at N8
    refine' h ?a ?b ?c ?d F9 N8
    case c => exact Tv.one (.inr ⟨_, .tail _ (.head _), rfl, _, rfl⟩) (.str _ _)
    case d => exact Tv.one (.inr ⟨_, .head _, rfl, _, rfl⟩) (.str _ _)
    case a => k_all
    case b => k_all
set_option maxRecDepth 100000 in
set_option maxHeartbeats 1000000 in
theorem head5 (hb : (hd.heap_1 w.params).lookup 351 = some ⟨oc, od, .func (fnOf name qual params body scope dV kV doc pm an cdv ct), osl⟩)
    {fd td ax ay : Addr} {o oC odd : Obj} {p0 p1 : Value} {Q : Flow → Shared → Prop}
    (F : Fr h₀ L s.heap m) (X : (hd.heap_1 w.params).In h₀) (T : Top p loose mean mg mb h₀) (N : News h₀ L s.heap ((fd, o) :: nw)) (Rr : Rm A 81) (hne : ∀ q ∈ nw, q.1 ≠ fd)
    (hx : Tv (Tp h₀ nw) (.ref ax) (Tm.leaf qx).py) (hy : Tv (Tp h₀ nw) (.ref ay) (Tm.leaf qy).py) (hC : (L + 1, oC) ∈ nw) (hCd : oC.data = .cell (some (.ref td))) (m1 : m (Str.ofString "x") = some (.ref ax)) (m2 : m (Str.ofString "y") = some (.ref ay))
    (hT : (td, odd) ∈ nw) (hod : odd.IsDictOf (strKind prog w) [(t0, p0), (t1, p1)]) (htd : (td == sysModules) = false)
    (h : ∀ {h' d tk' st J rd R vl vr nw'}, (Live h₀ L nw' fun h => JAt prog w h st J td rd R p0 p1 vl vr) → (∀ q ∈ nw, q ∈ nw') → (∀ q ∈ nw', q.1 ≠ fd) → Fr h₀ L h' (fun z => if z = Str.ofString "steps" then some (.ref st) else m z) → News h₀ L h' ((fd, o) :: nw') → Q .next { s with heap := h', drawn := d, toks := tk' }) :
    wpAny (model prog w) (A.deeper (envOfC qual scope L f cd)) (exec (hdS (stN 5 body)) (envOfC qual scope L f cd)) Q E s := by
  obtain ⟨hA, dA, fA, gA, uA⟩ := A
  obtain rfl : hA = none := Rr.hh
  refine' fn_elim hb ?e ?k
  case e => k_dflt k_is
  case k =>
    rintro rfl rfl rfl
    dsimp only [stN, forB, hdS, List.drop, List.take]
    refine (?_ : let mM' := _; let aA' := _; wpAny mM' aA' _ _ _ _); intro mM' aA'
    (try k_fold)
    k_steps
    rename Fr _ _ _ _ => F9
    rename News _ _ _ _ => N9
    have N8 := News.front (l1 := [_, _, _, _, _, _, _, _, _, _]) N9
    simp only [List.cons_append, List.nil_append] at N8
    refine' h ?j ?a ?b F9 N8
    case j =>
      intro h8 kp N7
      exact {
        steps := ⟨_, _, _, _, ⟨Mine.News.at N7 (by k_mem), rfl, rfl, Mine.News.at N7 (by k_mem)⟩⟩
        judge := ⟨_, _, _, _, _, _, ⟨Mine.News.at N7 (by k_mem), rfl, rfl, Mine.News.at N7 (by k_mem)⟩⟩
        rule := ⟨_, _, _, _, _, _, _, _, _, _, _, _, ⟨Mine.News.at N7 (by k_mem), rfl, rfl, Mine.News.at N7 (by k_mem)⟩⟩
        told := let ⟨es, ep, r⟩ := hod; ⟨_, es, ep, Mine.News.at N7 (sub_get hT (by k_all)), r⟩
        rules := by
          rename Obj.IsDictOf _ _ _ => hd9
          obtain ⟨es, ep, r⟩ := hd9
          exact ⟨_, es, ep, Mine.News.at N7 (by k_mem), r⟩
        tds := htd
        rds := by assumption
        left := Tv.three (News.isTup' N7 (by k_mem)) (.str _ _) (Tv.live (by assumption) (by k_all) h8 kp N7) (Tv.live (by assumption) (by k_all) h8 kp N7)
        right := Tv.three (News.isTup' N7 (by k_mem)) (.str _ _) (Tv.live (by assumption) (by k_all) h8 kp N7) (Tv.live (by assumption) (by k_all) h8 kp N7) }
    case a => k_all
    case b => k_all
end
end
theorem endOfLawH6 : True := trivial
/-! LawH7 -/
section
open PyProof.Rows.LCg
theorem pairs2 {h : Heap} {v0 v1 : Value} {x0 x1 : Str × Value} (a : PairAt h v0 x0) (b : PairAt h v1 x1) : ∀ (i : Nat) (v : Value) (x : Str × Value), [v0, v1][i]? = some v → [x0, x1][i]? = some x → PairAt h v x := by
  intro i v x hv hx
  cases i with
  | zero => exact Option.some.inj hv ▸ Option.some.inj hx ▸ a
  | succ i => cases i with
    | zero => exact Option.some.inj hv ▸ Option.some.inj hx ▸ b
    | succ i => exact absurd (show (none : Option Value) = some v from hv) (fun e => by cases e)
theorem t01_nodup {u v : Value} : (([(t0, u), (t1, v)] : List (Str × Value)).map (·.1)).Nodup := by
  show [t0, t1].Nodup
  decide +kernel
theorem dict_at {prog : Program} {w : World} {h₀ h : Heap} {L d : Addr} {o : Obj} {news : List (Addr × Obj)} {kvs : List (Str × Value)} (N : News h₀ L h news) (hm : (d, o) ∈ news) (hd : o.IsDictOf (strKind prog w) kvs) : h.DictOf (strKind prog w) d kvs := let ⟨es, ep, r⟩ := hd; ⟨o, es, ep, (N _ hm).1, r⟩
theorem small_two {u v : Tm} (h1 : u.Plain) (h2 : u.height ≤ 1) (h3 : v.Plain) (h4 : v.height ≤ 0) : Small2 u v := ⟨⟨h1, by omega, size_three (by omega)⟩, ⟨h3, by omega, size_three (by omega)⟩⟩
theorem w216 : True := by
  k_with "M eval Name" => ((fail_if_success (have := endOfLawH7)); case' FRESH => ((k_here; k_dflt (refine' nameX_L ?F ?v ?_ ?a ?b; (case F => k_asm); (case a => rfl); (case b => rfl); (case v => assumption); k_whole))))
  trivial
theorem w217 : True := by
  k_with "M eval Name" => ((fail_if_success (have := endOfLawH7)); case' FRESH => ((k_here; (with_reducible show wpAny _ _ (eval (PySem.Expr.Name "told" _) _) _ _ _); k_dflt (refine' nameX_C ?N ?c ?m ?d ?_ ?a ?b; (case a => rfl); (case b => rfl); (case N => k_asm); (case c => rfl); (case m => exact sub_get (by assumption) (by k_all)); (case d => assumption); k_whole))))
  trivial
theorem w218 : True := by
  k_with "M eval Name" => ((fail_if_success (have := endOfLawH7)); case' FRESH => ((k_here; (with_reducible show wpAny _ _ (eval (PySem.Expr.Name "told" _) (compEnvC _ _ _ _)) _ _ _); k_dflt (refine' lcf_free ?N ?c ?m ?d ?_ ?a ?b; (case a => rfl); (case b => rfl); (case N => k_asm); (case c => rfl); (case m => exact sub_get (by assumption) (by k_all)); (case d => assumption); k_whole))))
  trivial
theorem w219 : True := by
  k_with "M call ref" => ((fail_if_success (have := endOfLawH7)); case' FRESH => ((k_here; (with_reducible show wpAny _ _ (call (Value.ref 327) _ _) _ _ _); k_dflt (refine' term_use (n := 1) ?C ?F ?X ?T ?N ?U ?hdo ?hr ?hi ?R ?h0 ?h1 ?hlen ?hfl ?_; (case hfl => rfl); (case F => k_asm); (case X => k_asm); (case T => k_asm); (case N => k_asm); (case U => k_updF); (case hdo => assumption); (case hr => exact Live.get (P := fun h => h.IsList _ _) (by assumption) (by k_asm) (by k_asm) (by k_all)); (case hi => k_asm); (case R => exact Rm.le (Rm.deeper (by assumption)) (by decide)); (case h0 => omega); (case h1 => (have e0 : cost 0 = 1 := rfl); (have e1 : cost 1 = 3 := rfl); omega); (case hlen => assumption); (case C => exact term_all _); k_whole); intro t' v' h' o' tk' at2' tl' hpl' ht' ha' hb' hf' F' N' hq' hA' hv'; (try simp only [List.cons_append, List.nil_append] at N'))))
  trivial
theorem w220 : True := by
  k_with "M call ref" => ((fail_if_success (have := endOfLawH7)); case' FRESH => ((k_here; (with_reducible show wpAny _ _ (call (Value.ref 327) _ _) _ _ _); k_dflt (refine' term_use (n := 0) ?C ?F ?X ?T ?N ?U ?hdo ?hr ?hi ?R ?h0 ?h1 ?hlen ?hfl ?_; (case hfl => rfl); (case F => k_asm); (case X => k_asm); (case T => k_asm); (case N => k_asm); (case U => k_updF); (case hdo => assumption); (case hr => exact Live.get (P := fun h => h.IsList _ _) (by assumption) (by k_asm) (by k_asm) (by k_all)); (case hi => k_asm); (case R => exact Rm.le (Rm.deeper (by assumption)) (by decide)); (case h0 => omega); (case h1 => (have e0 : cost 0 = 1 := rfl); (have e1 : cost 1 = 3 := rfl); omega); (case hlen => assumption); (case C => exact term_all _); k_whole); intro t' v' h' o' tk' at2' tl' hpl' ht' ha' hb' hf' F' N' hq' hA' hv'; (try simp only [List.cons_append, List.nil_append] at N'))))
  trivial
theorem w221 : True := by
  k_with "M call ref" => ((fail_if_success (have := endOfLawH7)); case' FRESH => ((k_here; (with_reducible show wpAny _ _ (call (Value.ref 320) _ _) _ _ _); k_dflt (refine' pick_use ?F ?X ?T ?N ?U ?hdo ?hr ?hi ?R ?h0 ?h1 ?hm ?hm' ?hlen ?_; (case F => k_asm); (case X => k_asm); (case T => k_asm); (case N => k_asm); (case U => k_updF); (case hdo => assumption); (case hr => exact Live.get (P := fun h => h.IsList _ _) (by assumption) (by k_asm) (by k_asm) (by k_all)); (case hi => k_asm); (case R => exact Rm.le (Rm.deeper (by assumption)) (by omega)); (case h0 => omega); (case h1 => (have e0 : cost 0 = 1 := rfl); (have e1 : cost 1 = 3 := rfl); omega); (case hm => decide); (case hm' => decide); (case hlen => assumption); k_whole); intro k' tv' h' o' tk' hk1' hk2' hf' F' N' _; (try dsimp only at N'))))
  trivial
theorem w222 : True := by
  k_with "M call ref" => ((fail_if_success (have := endOfLawH7)); case' FRESH => ((k_here; (with_reducible show wpAny _ _ (call (Value.ref 334) _) _ _ _); k_dflt (refine' headsT_use ?F ?X ?T ?N ?R ?hz ?hv ?_; (case F => k_asm); (case X => k_asm); (case T => k_asm); (case N => k_asm); (case hv => exact Tv.at (by assumption) (by k_asm) (by k_asm) (by k_all)); (case R => exact Rm.le (Rm.deeper (by assumption)) (Nat.le_trans (Nat.succ_le_succ (Drawn3.low (by assumption))) (by decide))); (case hz => exact Nat.le_trans (Drawn3.few (by assumption)) (by decide)); k_whole); intro l' h' tk' vs' n' tl' F' N' l1 hA' hd'; (try simp only [List.cons_append, List.nil_append] at N'))))
  trivial
theorem w223 : True := by
  k_with "M CEnd" => ((fail_if_success (have := endOfLawH7)); case' FRESH => ((refine' CEnd.intro (by assumption) (by assumption) ?d1 ?d2 ?d3 ?n1 ?n2 ?n3 ?k ?_; (case d1 => k_all); (case d2 => k_all); (case d3 => k_all); (case n1 => k_all); (case n2 => k_all); (case n3 => k_all); (case k => first | exact Mine.News.at (by k_asm) (sub_get (by assumption) (by k_all)) | exact Fr.tup (by k_asm) (by assumption) | exact Fr.tupP (by assumption) (by k_asm) (by k_asm) (by k_all) | exact News.isTup (by k_asm) (by k_mem) | exact News.isList (by k_asm) (by k_mem)))))
  trivial
theorem w224 : True := by
  k_with "M pyIter ref" => ((fail_if_success (have := endOfLawH7)); case' FRESH => ((k_here; (with_reducible show wpAny _ _ (pyIter (Value.ref _)) (fun it s₂ => CompG _ _ _ _ _ _ _ _ _ _ _ _ _ it s₂) _ _); k_dflt (refine' comp_iter_dict ?h ?lo ?F ?N ?o ?d ?_; (case h => rfl); (case lo => assumption); (case F => k_asm); (case N => k_asm); (case o => exact Mine.News.at (by k_asm) (sub_get (by assumption) (by k_all))); (case d => assumption); k_whole); intro g' k1' k2')))
  trivial
theorem w225 : True := by
  k_with "M subscriptTail" => ((fail_if_success (have := endOfLawH7)); case' FRESH => ((k_here; (with_reducible show wpAny _ _ (subscriptTail _ _ (Value.ref _) (Value.str _ _)) _ _ _); k_dflt (refine' dsubH_use ?d ?v ?_ ?s; (case d => exact dict_at (by k_asm) (sub_get (by assumption) (by k_all)) (by assumption)); (case v => kernel_rfl); (case s => with_unfolding_all rfl)))))
  trivial
theorem w226 : True := by
  k_with "M call type:dict cons nil" => ((fail_if_success (have := endOfLawH7)); case' FRESH => ((k_here; k_dflt (refine' dictP_use (prs := [(t0, _), (t1, _)]) ?h ?F ?X ?N ?a ?l ?n ?z ?p ?_; (case h => rfl); (case F => k_asm); (case X => k_asm); (case N => k_asm); (case a => exact .inr ⟨_, _, Mine.News.at (by k_asm) (by k_mem)⟩); (case p => exact pairs2 ⟨_, _, rfl, News.isTup (by k_asm) (by k_mem)⟩ ⟨_, _, rfl, News.isTup (by k_asm) (by k_mem)⟩); (case l => rfl); (case n => exact t01_nodup); (case z => exact Nat.le_of_ble_eq_true rfl); k_whole); intro d' o' h' tk' F' N' l1 hd' hs' ht')))
  trivial
section
variable {prog : Program} {w : World} {p : Program} {loose : List Str} {mean : ExcName → Option Value} {mg mb : Str → Option Value}
variable {A : Around} {s : Shared} {h₀ H : Heap} {L : Addr} {m : Str → Option Value} {nw : List (Addr × Obj)} {E : Value → Shared → Prop}
variable {name qual : Str} {params : Arguments} {body : List Stmt} {scope : Scope} {dV kV doc pm cdv ct oc cd : Value} {an od : Option Addr} {osl : Array (Option Value)} {f : Addr}
set_option maxRecDepth 100000 in
set_option maxHeartbeats 1000000 in
theorem head6 (hb : (hd.heap_1 w.params).lookup 351 = some ⟨oc, od, .func (fnOf name qual params body scope dV kV doc pm an cdv ct), osl⟩)
    {fd row : Addr} {o : Obj} {rvs : List Value} {rns : List Int} {at' : Int} {Q : Flow → Shared → Prop}
    (F : Fr h₀ L s.heap m) (X : (hd.heap_1 w.params).In h₀) (T : Top p loose mean mg mb h₀) (N : News h₀ L s.heap ((fd, o) :: nw)) (Rr : Rm A 81)
    (hdo : FeedObj prog w row at' o) (hr : Live h₀ L nw fun h => h.IsList row rvs.toArray) (hri : IntsAre rvs rns) (hrl : rns.length ≤ 40) (ha0 : 0 ≤ at') (ha1 : at' < 450) (hne : ∀ q ∈ nw, q.1 ≠ fd) (m1 : m (Str.ofString "feed") = some (.ref fd))
    (h : ∀ {h' tk' o' at2 ot v1 v2 nb tb m'} {u1 u2 : Tm} {nw'}, FeedObj prog w row at2 o' → at' ≤ at2 → at2 ≤ at' + 10 → (∀ q ∈ nw, q ∈ nw') → (∀ q ∈ nw', q.1 ≠ fd) → Tp h₀ nw' ot #[v1, v2] → Tv (Tp h₀ nw') v1 u1.py → Tv (Tp h₀ nw') v2 u2.py → Small2 u1 u2 → (∀ n, n ≠ Str.ofString "other" → n ≠ Str.ofString "number" → m' n = m n) → m' (Str.ofString "other") = some (.ref ot) → m' (Str.ofString "number") = some (.int nb tb) → Fr h₀ L h' m' → News h₀ L h' ((fd, o') :: nw') → Q .next { s with heap := h', toks := tk' }) :
    wpAny (model prog w) (A.deeper (envOfC qual scope L f cd)) (exec (hdS (stN 6 body)) (envOfC qual scope L f cd)) Q E s := by
  obtain ⟨hA, dA, fA, gA, uA⟩ := A
  obtain rfl : hA = none := Rr.hh
  refine' fn_elim hb ?e ?k
  case e => k_dflt k_is
  case k =>
    rintro rfl rfl rfl
    dsimp only [stN, forB, hdS, List.drop, List.take]
    refine (?_ : let mM' := _; let aA' := _; wpAny mM' aA' _ _ _ _); intro mM' aA'
    (try k_fold)
    k_steps
    rename Fr _ _ _ _ => F9
    rename News _ _ _ _ => N9
    have e0 : cost 0 = 1 := rfl
    have e1 : cost 1 = 3 := rfl
    have N8 := News.front (l1 := [_]) (fun q hq => N9 q (.tail _ hq))
    simp only [List.cons_append, List.nil_append] at N8
    refine' h ?a ?b ?c ?d ?e ?f ?g ?i ?j ?k ?l ?n F9 N8
    case a => assumption
    case f => exact .inr ⟨_, .head _, rfl, _, rfl⟩
    case g => exact Tv.grow (by assumption) (by k_all)
    case i => exact Tv.grow (by assumption) (by k_all)
    case j => exact small_two (by assumption) (by assumption) (by assumption) (by assumption)
    case b => omega
    case c => omega
    case d => k_all
    case e => k_all
    case k => intro n n1 n2; rw [if_neg n1, if_neg n2]
    case l => exact if_pos rfl
    case n => exact (if_neg (by decide)).trans (if_pos rfl)
end
end
theorem endOfLawH7 : True := trivial
/-! LawH8 -/
section
open PyProof.Rows.LCg
theorem val_t0 {u v : Value} : valueAt [(t0, u), (t1, v)] t0 = some u := by kernel_rfl
theorem val_t1 {u v : Value} : valueAt [(t0, u), (t1, v)] t1 = some v := by kernel_rfl
theorem TvL.live {h₀ : Heap} {L : Addr} {tl nn : List (Addr × Obj)} {v : List Value} {d : List PyData} (x : TvL (Tp h₀ tl) v d) (k : ∀ p ∈ tl, p ∈ nn) : Live h₀ L nn fun h => TvL (IsTup h) v d := fun _ kp N => x.mono fun _ _ z => z.live k _ kp N
theorem HeadsV.live {h₀ : Heap} {L l : Addr} {news tl : List (Addr × Obj)} {vs : List Value} {n : Nat} {t : Tm} (hm : (l, PySem.W.listOf vs.toArray n) ∈ news) (hd : TvL (Tp h₀ tl) vs ((headL t).map itemPy)) (k : ∀ p ∈ tl, p ∈ news) : Live h₀ L news fun h => HeadsV h l vs n t :=
  fun h kp N => ⟨(N _ hm).1, hd.live k h kp N, by rw [hd.length, List.length_map, headL_length]⟩
theorem w227 : True := by
  k_with "M k_ne" => ((fail_if_success (have := endOfLawH8)); case' FRESH => ((refine neN ?_; (try dsimp only); first | exact NeA.l (by assumption) | exact NeA.r (by assumption) | exact Nat.ne_of_lt (by assumption) | exact Nat.ne_of_gt (by assumption) | assumption | exact Ne.symm (by assumption))))
  trivial
theorem w228 : True := by
  k_with "M eval Name" => ((fail_if_success (have := endOfLawH8)); case' FRESH => ((k_here; (with_reducible show wpAny _ _ (eval (PySem.Expr.Name "told" _) (envOfC _ _ _ _ _)) _ _ _); k_dflt (refine' nameX_C ?N ?c ?m ?d ?_ ?a ?b; (case a => rfl); (case b => rfl); (case N => k_asm); (case c => rfl); (case m => exact sub_get (by assumption) (by k_all)); (case d => assumption); k_whole))))
  trivial
theorem w229 : True := by
  k_with "M eval Name" => ((fail_if_success (have := endOfLawH8)); case' FRESH => ((k_here; (with_reducible show wpAny _ _ (eval (PySem.Expr.Name "told" _) (compEnvC _ _ _ _)) _ _ _); k_dflt (refine' lcf_cell ?N ?c ?m ?d ?_ ?a ?b; (case a => rfl); (case b => rfl); (case N => k_asm); (case c => rfl); (case m => exact sub_get (by assumption) (by k_all)); (case d => assumption); k_whole))))
  trivial
theorem w230 : True := by
  k_with "M call ref" => ((fail_if_success (have := endOfLawH8)); case' FRESH => ((k_here; (with_reducible show wpAny _ _ (call (Value.ref 334) _) _ _ _); k_dflt (refine' headsT_use ?F ?X ?T ?N ?R ?hz ?hv ?_; (case F => k_asm); (case X => k_asm); (case T => k_asm); (case N => k_asm); (case hv => exact Tv.at (by assumption) (by k_asm) (by k_asm) (by k_all)); (case R => exact Rm.le (Rm.deeper (by assumption)) (Nat.le_trans (Nat.succ_le_succ (Drawn3.low (by assumption))) (by decide))); (case hz => exact Nat.le_trans (Drawn3.few (by assumption)) (by decide)); k_whole); intro l' h' tk' vs' n' tl' F' N' l1 hA' hd'; (try simp only [List.cons_append, List.nil_append] at N'))))
  trivial
theorem w231 : True := by
  k_with "M CEnd" => ((fail_if_success (have := endOfLawH8)); case' FRESH => (((try simp only [List.nil_append, List.cons_append]); refine' CEnd.intro (by assumption) (by assumption) ?d1 ?d2 ?d3 ?n1 ?n2 ?n3 ?k ?_; (case d1 => k_all); (case d2 => k_all); (case d3 => k_all); (case n1 => k_all); (case n2 => k_all); (case n3 => k_all); (case k => first | exact Mine.News.at (by k_asm) (sub_get (by assumption) (by k_all)) | exact Fr.tup (by k_asm) (by assumption) | exact Fr.tupP (by assumption) (by k_asm) (by k_asm) (by k_all) | exact News.isTup (by k_asm) (by k_mem) | exact News.isList (by k_asm) (by k_mem)))))
  trivial
theorem w232 : True := by
  k_with "M pyIter ref" => ((fail_if_success (have := endOfLawH8)); case' FRESH => ((k_here; (with_reducible show wpAny _ _ (pyIter (Value.ref _)) (fun it s₂ => CompG _ _ _ _ _ _ _ _ _ _ _ _ _ it s₂) _ _); k_dflt (refine' comp_iter_dict ?h ?lo ?F ?N ?o ?d ?_; (case h => rfl); (case lo => assumption); (case F => k_asm); (case N => k_asm); (case o => exact Mine.News.at (by k_asm) (sub_get (by assumption) (by k_all))); (case d => assumption); k_whole); intro g' k1' k2')))
  trivial
theorem w233 : True := by
  k_with "M subscriptTail" => ((fail_if_success (have := endOfLawH8)); case' FRESH => ((k_here; (with_reducible show wpAny _ _ (subscriptTail _ _ (Value.ref _) (Value.str _ _)) _ _ _); k_dflt (refine' dsubH_use ?d ?v ?_ ?s; (case d => exact dict_at (by k_asm) (sub_get (by assumption) (by k_all)) (by assumption)); (case v => first | exact val_t0 | exact val_t1); (case s => with_unfolding_all rfl)))))
  trivial
theorem w234 : True := by
  k_with "M call type:dict cons nil" => ((fail_if_success (have := endOfLawH8)); case' FRESH => ((k_here; k_dflt (refine' dictP_use (prs := [(t0, _), (t1, _)]) ?h ?F ?X ?N ?a ?l ?n ?z ?p ?_; (case h => rfl); (case F => k_asm); (case X => k_asm); (case N => k_asm); (case a => exact .inr ⟨_, _, Mine.News.at (by k_asm) (by k_mem)⟩); (case p => exact pairs2 ⟨_, _, rfl, News.isTup (by k_asm) (by k_mem)⟩ ⟨_, _, rfl, News.isTup (by k_asm) (by k_mem)⟩); (case l => rfl); (case n => exact t01_nodup); (case z => exact Nat.le_of_ble_eq_true rfl); k_whole); intro d' o' h' tk' F' N' l1 hd' hs' ht')))
  trivial
section
variable {prog : Program} {w : World} {p : Program} {loose : List Str} {mean : ExcName → Option Value} {mg mb : Str → Option Value}
variable {A : Around} {s : Shared} {h₀ H : Heap} {L : Addr} {m : Str → Option Value} {nw : List (Addr × Obj)} {E : Value → Shared → Prop}
variable {name qual : Str} {params : Arguments} {body : List Stmt} {scope : Scope} {dV kV doc pm cdv ct oc cd : Value} {an od : Option Addr} {osl : Array (Option Value)} {f : Addr}
set_option maxRecDepth 100000 in
set_option maxHeartbeats 1000000 in
theorem head7 (hb : (hd.heap_1 w.params).lookup 351 = some ⟨oc, od, .func (fnOf name qual params body scope dV kV doc pm an cdv ct), osl⟩)
    {fd td : Addr} {o oC odd : Obj} {P : Bool → Addr} {l r : Bool → Value} {a b : Bool → Tm} {Q : Flow → Shared → Prop}
    (F : Fr h₀ L s.heap m) (X : (hd.heap_1 w.params).In h₀) (T : Top p loose mean mg mb h₀) (N : News h₀ L s.heap ((fd, o) :: nw)) (Rr : Rm A 81) (hne : ∀ q ∈ nw, q.1 ≠ fd) (hto : tupObj o = false)
    (hC : (L + 1, oC) ∈ nw) (hCd : oC.data = .cell (some (.ref td))) (hT : (td, odd) ∈ nw) (hod : odd.IsDictOf (strKind prog w) [(t0, .ref (P false)), (t1, .ref (P true))]) (htd : (td == sysModules) = false)
    (c1 : ∀ c, Tp h₀ nw (P c) #[l c, r c]) (c2 : ∀ c, Tv (Tp h₀ nw) (l c) (a c).py) (c3 : ∀ c, Tv (Tp h₀ nw) (r c) (b c).py) (c4 : ∀ c, Drawn3 (a c)) (c5 : ∀ c, Drawn3 (b c))
    (h : ∀ {h' tk' rn nw' q0 q1 x0 x1 y0 y1 xs0 xs1 ys0 ys1 nx0 nx1 ny0 ny1}, (∀ q ∈ nw, q ∈ nw') → (∀ q ∈ nw', q.1 ≠ fd) → (Live h₀ L nw' fun h => h.DictOf (strKind prog w) rn [(t0, .ref q0), (t1, .ref q1)]) → (rn == sysModules) = false → (Live h₀ L nw' fun h => IsTup h q0 #[.ref x0, .ref y0]) → (Live h₀ L nw' fun h => IsTup h q1 #[.ref x1, .ref y1]) →
      (Live h₀ L nw' fun h => HeadsV h x0 xs0 nx0 (a false)) → (Live h₀ L nw' fun h => HeadsV h x1 xs1 nx1 (a true)) → (Live h₀ L nw' fun h => HeadsV h y0 ys0 ny0 (b false)) → (Live h₀ L nw' fun h => HeadsV h y1 ys1 ny1 (b true)) →
      Fr h₀ L h' (fun z => if z = Str.ofString "runs" then some (.ref rn) else m z) → News h₀ L h' ((fd, o) :: nw') → Q .next { s with heap := h', toks := tk' }) :
    wpAny (model prog w) (A.deeper (envOfC qual scope L f cd)) (exec (hdS (stN 7 body)) (envOfC qual scope L f cd)) Q E s := by
  obtain ⟨hA, dA, fA, gA, uA⟩ := A
  obtain rfl : hA = none := Rr.hh
  have c10 := c1 false
  have c11 := c1 true
  have c20 := c2 false
  have c21 := c2 true
  have c30 := c3 false
  have c31 := c3 true
  have c40 := c4 false
  have c41 := c4 true
  have c50 := c5 false
  have c51 := c5 true
  obtain ⟨x1, e1⟩ := Tv.isRef c20
  obtain ⟨x2, e2⟩ := Tv.isRef c21
  obtain ⟨x3, e3⟩ := Tv.isRef c30
  obtain ⟨x4, e4⟩ := Tv.isRef c31
  rw [e1] at c20 c10
  rw [e2] at c21 c11
  rw [e3] at c30 c10
  rw [e4] at c31 c11
  refine' fn_elim hb ?e ?k
  case e => k_dflt k_is
  case k =>
    rintro rfl rfl rfl
    dsimp only [stN, forB, hdS, List.drop, List.take]
    refine (?_ : let mM' := _; let aA' := _; wpAny mM' aA' _ _ _ _); intro mM' aA'
    (try k_fold)
    k_steps
    rename Fr _ _ _ _ => F9
    rename News _ _ _ _ => N9
    have N8 := News.front (l1 := [_, _, _, _, _, _, _, _, _, _]) N9
    simp only [List.cons_append, List.nil_append] at N8
    refine' h ?a ?b ?dd ?dm ?q0 ?q1 ?x0 ?x1 ?y0 ?y1 F9 N8
    case a => k_all
    case b => k_all
    case dd => exact fun _ _ N => dict_at N (.head _) (by assumption)
    case dm => assumption
    case q0 => exact fun _ _ N => News.isTup' N (by k_mem)
    case q1 => exact fun _ _ N => News.isTup' N (by k_mem)
    case x0 => exact HeadsV.live (by k_mem) (by assumption) (by k_all)
    case x1 => exact HeadsV.live (by k_mem) (by assumption) (by k_all)
    case y0 => exact HeadsV.live (by k_mem) (by assumption) (by k_all)
    case y1 => exact HeadsV.live (by k_mem) (by assumption) (by k_all)
end
end
theorem endOfLawH8 : True := trivial
/-! LawG -/
section
open PyProof.Rows.LCg
open Classical in
/-- a heap that holds just the ground and the ledger -/
theorem live_heap {h₀ h : Heap} {L : Addr} {m : Str → Option Value} {nw : List (Addr × Obj)} (F : Fr h₀ L h m) (N : News h₀ L h nw) : ∃ H, Keep h₀ H ∧ News h₀ L H nw ∧ Live h₀ L nw (Keep H) := by
  let l : List Addr := (List.range h.objs.size).filter fun a => decide (h₀.get? a = none ∧ ∀ q ∈ nw, q.1 ≠ a)
  have out : ∀ a, a ∈ l → h₀.get? a = none ∧ ∀ q ∈ nw, q.1 ≠ a := fun a ha => of_decide_eq_true (List.mem_filter.mp ha).2
  refine ⟨hideAll h l, (fun b o q => hideAll_get _ (F.keep b o q) (fun hm => by have z := (out b hm).1; rw [q] at z; cases z)), (fun q hq => ⟨hideAll_get _ (N q hq).1 (fun hm => (out _ hm).2 q hq rfl), (N q hq).2⟩), fun h' kp N' b o q => ?_⟩
  have q1 := of_hideAll _ q
  have nb : b ∉ l := fun hm => by rw [hideAll_none _ hm] at q; cases q
  by_cases e : h₀.get? b = none
  · have : ∃ p ∈ nw, p.1 = b := by
      apply Classical.byContradiction
      intro z
      refine nb (List.mem_filter.mpr ⟨List.mem_range.mpr (Heap.lt_size q1), decide_eq_true ⟨e, fun p hp z2 => z ⟨p, hp, z2⟩⟩⟩)
    obtain ⟨p, hp, rfl⟩ := this
    have := (N p hp).1
    rw [q1] at this
    cases this
    exact (N' p hp).1
  · cases q2 : h₀.get? b with
    | none => exact absurd q2 e
    | some o' =>
      have := F.keep _ _ q2
      rw [q1] at this
      cases this
      exact kp _ _ q2
section
variable {prog : Program} {w : World} {A : Around} {s : Shared} {h₀ : Heap} {L : Addr} {m : Str → Option Value} {news : List (Addr × Obj)} {E : Value → Shared → Prop} {Q : Value → Shared → Prop}
abbrev enO (it : Addr) : Obj := { cls := .type "enumerate", dict := none, data := .fields #[.none, .bool false, .ref it, rawInt 0, .none, .none], slots := #[] }
theorem enumC_use {l : Addr} {vs : List Value} (F : Fr h₀ L s.heap m) (N : News h₀ L s.heap news) (hl : s.heap.IsList l vs.toArray)
    (h : ∀ e it oi h', oi.cls = .type "list_iterator" → oi.data = .fields #[.ref l, .int 0 0] → Fr h₀ L h' m → News h₀ L h' ((e, enO it) :: (it, oi) :: news) → (∀ p ∈ news, p.1 ≠ e) → (∀ p ∈ news, p.1 ≠ it) → NeA e it → Q (.ref e) { s with heap := h' }) :
    wpAny (model prog w) A (call (.type "enumerate") [.ref l]) Q E s := by
  refine call_enumerate_list hl fun h1 he hit hsz k1 => ?_
  obtain ⟨oi, ho, hc, hd⟩ := hit
  obtain ⟨F', N', n1, n2⟩ := two_news F N (Heap.get?_none_of_le (Nat.le_succ _)) (Heap.get?_none_of_le (Nat.le_refl _)) k1 he ho
  exact h _ _ oi h1 hc hd F' N' n1 n2 (Nat.succ_ne_self _)
theorem listC_use {l e it : Addr} {oi : Obj} {vs : List Value} (hh : A.handled = none) (hc : oi.cls = .type "list_iterator") (hd : oi.data = .fields #[.ref l, .int 0 0]) (F : Fr h₀ L s.heap m) (N : News h₀ L s.heap ((e, enO it) :: (it, oi) :: news)) (n1 : ∀ p ∈ news, p.1 ≠ e) (n2 : ∀ p ∈ news, p.1 ≠ it) (ne : NeA e it) (hl : s.heap.IsList l vs.toArray) (hz : vs.length ≤ 1000)
    (h : ∀ D h' tk (Ts : List Addr) c tl, Fr h₀ L h' m → News h₀ L h' ((D, PySem.W.listOf (Ts.map Value.ref).toArray c) :: (news ++ tl)) → (∀ p ∈ news, p.1 ≠ D) → AllTup tl → Ts.length = vs.length → (∀ (j : Nat) (T : Addr), Ts[j]? = some T → ∃ t x, vs[j]? = some x ∧ Tp h₀ tl T #[.int (j : Nat) t, x]) → Q (.ref D) { s with heap := h', toks := tk }) :
    wpAny (model prog w) A (call (.type "list") [.ref e]) Q E s := by
  have he := (N _ (.head _)).1
  have hi := (N _ (.tail _ (.head _))).1
  have N0 : News h₀ L s.heap news := fun q hq => N q (.tail _ (.tail _ hq))
  have ge := (N _ (.head _)).2.2
  have gi := (N _ (.tail _ (.head _))).2.2
  refine list_enum hh he ⟨oi, hi, hc, hd⟩ hl ne (by rw [List.size_toArray]; exact hz) fun h2 tk Ts c e1 e2 e3 e4 => ?_
  have Le : L ≠ e := Ne.symm (N _ (.head _)).2.1
  have Li : L ≠ it := Ne.symm (N _ (.tail _ (.head _))).2.1
  have F2 : Fr h₀ L h2 m := by
    obtain ⟨oL, es, ep, hL, hr⟩ := F.ns
    exact ⟨⟨oL, es, ep, e4 _ _ Le Li hL, hr⟩, fun b o q => e4 b o (fun z => by have ge := ge; rw [← z] at ge; rw [q] at ge; cases ge) (fun z => by have gi := gi; rw [← z] at gi; rw [q] at gi; cases gi) (F.keep b o q), F.above⟩
  have N2 : News h₀ L h2 news := fun q hq => ⟨e4 _ _ (n1 q hq) (n2 q hq) (N0 q hq).1, (N0 q hq).2⟩
  have hD : s.heap.get? s.heap.objs.size = none := Heap.get?_none_of_le (Nat.le_refl _)
  refine h s.heap.objs.size h2 tk Ts c (tups h₀ h2) F2 (fresh_news F (News.app N2 (news_tups F2)) hD e2) (ne_of_none N0 hD) (allTup_tups _ _) (by rw [e1, List.size_toArray]) fun j T hj => ?_
  obtain ⟨t, x, a1, a2, _⟩ := e3 j T hj
  exact ⟨t, x, by simpa using a1, tp_tups F2 a2⟩
end
end
/-! LawI -/
section
open PyProof.Rows.LCg
def itS : List Stmt → PySem.Expr
  | [.For _ i _ _ _] => i
  | _ => .Constant .none 0 ⟨0, 0, 0, 0⟩
theorem parts_ints : ∀ (t : Tm) (x : List Int × Tm), x ∈ partsL t → ∀ i ∈ x.1, -1000 ≤ i ∧ i ≤ 1000
  | .leaf _, x, hx, i, hi => by simp [partsL] at hx; simp [hx] at hi
  | .un t, x, hx, i, hi => by
    simp only [partsL, List.mem_cons, List.mem_map] at hx
    rcases hx with rfl | ⟨y, hy, rfl⟩
    · simp at hi
    · simp only [under, List.mem_cons] at hi
      rcases hi with rfl | hi
      · exact ⟨by decide, by decide⟩
      · exact parts_ints t y hy i hi
  | .bin t u, x, hx, i, hi => by
    simp only [partsL, List.mem_cons, List.mem_append, List.mem_map] at hx
    rcases hx with rfl | ⟨y, hy, rfl⟩ | ⟨y, hy, rfl⟩
    · simp at hi
    · simp only [under, List.mem_cons] at hi
      rcases hi with rfl | hi
      · exact ⟨by decide, by decide⟩
      · exact parts_ints t y hy i hi
    · simp only [under, List.mem_cons] at hi
      rcases hi with rfl | hi
      · exact ⟨by decide, by decide⟩
      · exact parts_ints u y hy i hi
theorem itemP {h₀ : Heap} {nw tl : List (Addr × Obj)} {t : Tm} {vs2 : List Value} {j : Nat} {T : Addr} {tk : Tok} {x : Value} (hI : ItL (Tp h₀ nw) vs2 (partsL t)) (hp : t.Plain) (hth : t.height ≤ 3) (hx : vs2[j]? = some x) (hT : Tp h₀ tl T #[.int (j : Nat) tk, x]) : Item (Tp h₀ (nw ++ tl)) t (.ref T) := by
  obtain ⟨v, d, h1, h2, h3⟩ := hI.get j (List.getElem?_eq_some_iff.mp hx).1
  rw [hx] at h1
  cases h1
  have hm := List.mem_of_getElem? h2
  have P := partsK t j d h2
  have lo := partsL_low t d hm hp
  have len := partsL_path t d hm
  exact ⟨T, j, tk, x, d, rfl, Tp.grow (fun q hq => List.mem_append_right _ hq) hT, h3.mono fun _ _ z => Tp.grow (fun q hq => List.mem_append_left _ hq) z, by omega, parts_ints t d hm, .there P, ⟨lo.1, by omega, size_three (by omega)⟩, .inl P.sub⟩
theorem sub_two (t : Tm) : sub t [2] = none := by cases t <;> simp [sub]
theorem itemX {P : Addr → Array Value → Prop} {t : Tm} {D1 D2 D3 D4 D5 D6 : Addr} {k1 k2 k3 k4 k5 : Tok} (h1 : P D1 #[.int (-1) k1, .ref D2]) (h2 : P D2 #[.ref D6, .ref D3]) (h3 : P D3 #[.str (Str.ofString "g") k2, .ref D5, .ref D4]) (h4 : P D4 #[.str (Str.ofString "b") k3]) (h5 : P D5 #[.str (Str.ofString "a") k4]) (h6 : P D6 #[.int 2 k5]) : Item P t (.ref D1) :=
  ⟨D1, -1, k1, .ref D2, ([2], .bin (.leaf (Str.ofString "a")) (.leaf (Str.ofString "b"))), rfl, h1, ⟨D2, _, _, rfl, h2, ⟨D6, [.int 2 k5], rfl, h6, .cons .nil⟩, .three h3 (.str _ _) (.one h5 (.str _ _)) (.one h4 (.str _ _))⟩, by decide, by decide, .none (sub_two t), ⟨⟨.inl rfl, .inr rfl⟩, by decide, by decide⟩, .inr (sub_two t)⟩
theorem w235 : True := by
  k_with "M eval Name" => ((fail_if_success (have := endOfLawI)); case' FRESH => ((k_here; k_dflt (refine' nameX_L ?F ?v ?_ ?a ?b; (case F => k_asm); (case a => rfl); (case b => rfl); (case v => assumption); k_whole))))
  trivial
theorem w236 : True := by
  k_with "M call type:enumerate cons nil" => ((fail_if_success (have := endOfLawI)); case' FRESH => ((k_here; k_dflt (refine' enumC_use ?F ?N ?l ?_; (case F => k_asm); (case N => k_asm); (case l => exact Live.get (P := fun h => h.IsList _ _) (by assumption) (by k_asm) (by k_asm) (by k_all)); k_whole); intro e' it' oi' h' hc' hd' F' N' n1' n2' n3')))
  trivial
theorem w237 : True := by
  k_with "M call type:list cons nil" => ((fail_if_success (have := endOfLawI)); case' FRESH => ((k_here; k_dflt (refine' listC_use ?h ?c ?d ?F ?N ?n1 ?n2 ?n3 ?l ?z ?_; (case h => rfl); (case F => k_asm); (case N => k_asm); (case c => assumption); (case d => assumption); (case n1 => assumption); (case n2 => assumption); (case n3 => assumption); (case l => exact Live.get (P := fun h => h.IsList _ _) (by assumption) (by k_asm) (by k_asm) (by k_all)); (case z => omega); k_whole); intro D' h' tk' Ts' c' tl' F' N' l1 hA' hT' hE'; (try simp only [List.cons_append, List.nil_append] at N'))))
  trivial
theorem w238 : True := by
  k_with "M binaryOp Add ref ref" => ((fail_if_success (have := endOfLawI)); case' FRESH => ((k_here; (with_reducible show wpAny _ _ (binaryOp _ (Value.ref _) (Value.ref _)) _ _ _); k_dflt (refine' addL_use ?F ?N ?a ?b ?z ?_; (case F => k_asm); (case N => k_asm); (case a => exact News.isList (by k_asm) (by k_mem)); (case b => exact News.isList (by k_asm) (by k_mem)); (case z => (simp only [List.length_map, List.length_cons, List.length_nil]; omega)); k_whole); intro D' h' F' N' l1; (try k_lt l1))))
  trivial
section
variable {prog : Program} {w : World} {p : Program} {loose : List Str} {mean : ExcName → Option Value} {mg mb : Str → Option Value}
variable {A : Around} {s : Shared} {h₀ H : Heap} {L : Addr} {m : Str → Option Value} {nw : List (Addr × Obj)} {E : Value → Shared → Prop}
variable {name qual : Str} {params : Arguments} {body : List Stmt} {scope : Scope} {dV kV doc pm cdv ct oc cd : Value} {an od : Option Addr} {osl : Array (Option Value)} {f : Addr}
set_option maxRecDepth 100000 in
set_option maxHeartbeats 1000000 in
theorem iter8 (hb : (hd.heap_1 w.params).lookup 351 = some ⟨oc, od, .func (fnOf name qual params body scope dV kV doc pm an cdv ct), osl⟩)
    {fd l2 : Addr} {o : Obj} {t : Tm} {vs2 : List Value} {Q : Value → Shared → Prop}
    (F : Fr h₀ L s.heap m) (X : (hd.heap_1 w.params).In h₀) (T : Top p loose mean mg mb h₀) (N : News h₀ L s.heap ((fd, o) :: nw)) (Rr : Rm A 81) (hne : ∀ q ∈ nw, q.1 ≠ fd) (hto : tupObj o = false)
    (hpc : Live h₀ L nw fun h => h.IsList l2 vs2.toArray) (hI : ItL (Tp h₀ nw) vs2 (partsL t)) (hp : t.Plain) (hz2 : vs2.length ≤ 40) (hth : t.height ≤ 3) (m1 : m (Str.ofString "pieces") = some (.ref l2))
    (h : ∀ {h' tk' D vs n nw'}, (∀ q ∈ nw, q ∈ nw') → (∀ q ∈ nw', q.1 ≠ fd) → (D, PySem.W.listOf (List.toArray vs) n) ∈ nw' → (∀ v ∈ vs, Item (Tp h₀ nw') t v) → vs.length ≤ 100 → Fr h₀ L h' m → News h₀ L h' ((fd, o) :: nw') → Q (.ref D) { s with heap := h', toks := tk' }) :
    wpAny (model prog w) (A.deeper (envOfC qual scope L f cd)) (eval (itS (stN 8 body)) (envOfC qual scope L f cd)) Q E s := by
  obtain ⟨hA, dA, fA, gA, uA⟩ := A
  obtain rfl : hA = none := Rr.hh
  refine' fn_elim hb ?e ?k
  case e => k_dflt k_is
  case k =>
    rintro rfl rfl rfl
    dsimp only [stN, forB, hdS, itS, List.drop, List.take]
    refine (?_ : let mM' := _; let aA' := _; wpAny mM' aA' _ _ _ _); intro mM' aA'
    (try k_fold)
    k_steps
    rename Fr _ _ _ _ => F9
    rename News _ _ _ _ => N9
    rename AllTup _ => hAt
    rename _ = vs2.length => hTs
    (rename ∀ (j : Nat) (T : Addr), _ => hEn)
    have N8 := News.front (l1 := [_, _, _, _, _, _, _, _, _]) N9
    simp only [List.cons_append, List.nil_append] at N8
    refine' h ?a ?b ?c ?d ?e F9 N8
    case a => k_all
    case b => (repeat' (first | (refine List.forall_mem_cons.mpr ⟨?_, ?_⟩) | exact List.forall_mem_nil _ | (refine for_all_app ?_ ?_) | k_ne | k_all))
    case c => k_mem
    case e => (simp only [List.length_append, List.length_map, List.length_cons, List.length_nil]; omega)
    case d =>
      intro v hv
      rcases List.mem_append.mp hv with hv | hv
      · obtain ⟨T', hT', rfl⟩ := List.mem_map.mp hv
        obtain ⟨j, hj⟩ := List.getElem?_of_mem hT'
        obtain ⟨tk, x, hx, hx2⟩ := hEn j T' hj
        exact (itemP hI hp hth hx hx2).mono fun _ _ z => Tp.grow (by k_all) z
      · rw [List.mem_singleton.mp hv]
        exact itemX (.inr ⟨_, by k_mem, rfl, _, rfl⟩) (.inr ⟨_, by k_mem, rfl, _, rfl⟩) (.inr ⟨_, by k_mem, rfl, _, rfl⟩) (.inr ⟨_, by k_mem, rfl, _, rfl⟩) (.inr ⟨_, by k_mem, rfl, _, rfl⟩) (.inr ⟨_, by k_mem, rfl, _, rfl⟩)
end
end
theorem endOfLawI : True := trivial
/-! LawJ -/
section
open PyProof.Rows.LCg
theorem w239 : True := by
  k_with "M eval Name" => ((fail_if_success (have := endOfLawJ)); case' FRESH => ((k_here; k_dflt (refine' nameX_L ?F ?v ?_ ?a ?b; (case F => k_asm); (case a => rfl); (case b => rfl); (case v => assumption); k_whole))))
  trivial
theorem w240 : True := by
  k_with "M call ref" => ((fail_if_success (have := endOfLawJ)); case' FRESH => ((k_here; (with_reducible show wpAny _ _ (call (Value.ref 334) _) _ _ _); k_dflt (refine' headsT_use ?F ?X ?T ?N ?R ?hz ?hv ?_; (case F => k_asm); (case X => k_asm); (case T => k_asm); (case N => k_asm); (case hv => exact Live.get (P := fun h => Tv (IsTup h) _ _) (by assumption) (by k_asm) (by k_asm) (by k_all)); (case R => exact Rm.le (Rm.deeper (by assumption)) (Nat.le_trans (Nat.succ_le_succ (Drawn3.low (by assumption))) (by decide))); (case hz => exact Nat.le_trans (Drawn3.few (by assumption)) (by decide)); k_whole); intro l' h' tk' vs' n' tl' F' N' l1 hA' hd')))
  trivial
theorem w241 : True := by
  k_with "M compareOp Eq ref ref" => ((fail_if_success (have := endOfLawJ)); case' FRESH => ((refine Stop.in ?_)))
  trivial
section
variable {prog : Program} {w : World} {p : Program} {loose : List Str} {mean : ExcName → Option Value} {mg mb : Str → Option Value}
variable {A : Around} {s : Shared} {h₀ H : Heap} {L : Addr} {m : Str → Option Value} {nw : List (Addr × Obj)} {E : Value → Shared → Prop}
variable {name qual : Str} {params : Arguments} {body : List Stmt} {scope : Scope} {dV kV doc pm cdv ct oc cd : Value} {an od : Option Addr} {osl : Array (Option Value)} {f : Addr}
set_option maxRecDepth 100000 in
set_option maxHeartbeats 1000000 in
theorem head9 (hb : (hd.heap_1 w.params).lookup 351 = some ⟨oc, od, .func (fnOf name qual params body scope dV kV doc pm an cdv ct), osl⟩)
    {st hds rn ot fd : Addr} {vt : Value} {nb : Int} {tb : Tok} {t : Tm} {hvs : List Value} {nh : Nat} {Q : Flow → Shared → Prop}
    (F : Fr h₀ L s.heap m) (X : (hd.heap_1 w.params).In h₀) (T : Top p loose mean mg mb h₀) (N : News h₀ L s.heap nw) (Rr : Rm A 81)
    (hv : Live h₀ L nw fun h => Tv (IsTup h) vt t.py) (dt : Drawn3 t) (hh : Live h₀ L nw fun h => HeadsV h hds hvs nh t) (Hm : Nm m st hds rn ot fd vt nb tb)
    (h : ∀ h' d tk', Keep h₀ h' → Q (.ret (.bool true)) { s with heap := h', drawn := d, toks := tk' }) :
    wpAny (model prog w) (A.deeper (envOfC qual scope L f cd)) (execs (body.drop 9) (envOfC qual scope L f cd)) Q E s := by
  obtain ⟨hA, dA, fA, gA, uA⟩ := A
  obtain rfl : hA = none := Rr.hh
  have m1 := Hm.term
  have m2 := Hm.heads
  obtain ⟨va, rfl⟩ := Tv.isRef (hv _ F.keep N)
  refine' fn_elim hb ?e ?k
  case e => k_dflt k_is
  case k =>
    rintro rfl rfl rfl
    dsimp only [stN, forB, hdS, itS, List.drop, List.take]
    refine (?_ : let mM' := _; let aA' := _; wpAny mM' aA' _ _ _ _); intro mM' aA'
    (try k_fold)
    k_steps
    refine Stop.out ?_
    rename Fr _ _ _ _ => F9
    rename News _ _ _ _ => N9
    rename TvL _ _ _ => hd9
    have H9 := hh.get F9 N9 (by k_all)
    refine' eqHeads_true (News.isList N9 (.head _)) (isListOf H9.at_) (TvL.at hd9 F9 N9 (by k_all)) H9.items rfl (headL_good _ dt.plain) (Rm.units Rr) ?_
    have kp9 := Fr.keep F9
    clear F9 N9
    k_steps
    exact h _ _ _ kp9
end
end
theorem endOfLawJ : True := trivial
/-! LawK -/
section
open PyProof.Rows.LCg
theorem News.perm3 {h₀ h : Heap} {L : Addr} {a b c : Addr × Obj} {r : List (Addr × Obj)} (N : News h₀ L h (a :: b :: c :: r)) : News h₀ L h (c :: a :: b :: r) := fun q hq => N q (by
  rcases List.mem_cons.mp hq with rfl | hq
  · exact .tail _ (.tail _ (.head _))
  · rcases List.mem_cons.mp hq with rfl | hq
    · exact .head _
    · rcases List.mem_cons.mp hq with rfl | hq
      · exact .tail _ (.head _)
      · exact .tail _ (.tail _ (.tail _ hq)))
theorem News.permA {h₀ h : Heap} {L : Addr} {a b c d e : Addr × Obj} {r : List (Addr × Obj)} (N : News h₀ L h (a :: b :: c :: d :: e :: r)) : News h₀ L h (a :: e :: b :: c :: d :: r) := fun q hq => N q (by
  simp only [List.mem_cons] at hq ⊢
  rcases hq with h | h | h | h | h | h
  · exact .inl h
  · exact .inr (.inr (.inr (.inr (.inl h))))
  · exact .inr (.inl h)
  · exact .inr (.inr (.inl h))
  · exact .inr (.inr (.inr (.inl h)))
  · exact .inr (.inr (.inr (.inr (.inr h)))))
theorem news_ne {h₀ h : Heap} {L a b : Addr} {oa ob : Obj} {l : List (Addr × Obj)} (N : News h₀ L h l) (ha : (a, oa) ∈ l) (hb : (b, ob) ∈ l) (hne : oa.data ≠ ob.data) : a ≠ b := by
  rintro rfl
  have h1 := (N _ ha).1
  have h2 := (N _ hb).1
  rw [h1] at h2
  cases h2
  exact hne rfl
section
variable {prog : Program} {w : World} {p : Program} {loose : List Str} {mean : ExcName → Option Value} {mg mb : Str → Option Value}
variable {A : Around} {s : Shared} {h₀ H : Heap} {L : Addr} {m : Str → Option Value} {nw : List (Addr × Obj)} {E : Value → Shared → Prop}
variable {name qual : Str} {params : Arguments} {body : List Stmt} {scope : Scope} {dV kV doc pm cdv ct oc cd : Value} {an od : Option Addr} {osl : Array (Option Value)} {f : Addr}
set_option maxRecDepth 100000 in
theorem body_shape (hb : (hd.heap_1 w.params).lookup 351 = some ⟨oc, od, .func (fnOf name qual params body scope dV kV doc pm an cdv ct), osl⟩) : body = hdS (stN 0 body) :: hdS (stN 1 body) :: hdS (stN 2 body) :: hdS (stN 3 body) :: hdS (stN 4 body) :: hdS (stN 5 body) :: hdS (stN 6 body) :: hdS (stN 7 body) :: hdS (stN 8 body) :: body.drop 9 := by
  refine' fn_elim hb ?e ?k
  case e => k_dflt k_is
  case k =>
    rintro rfl rfl rfl
    rfl
set_option maxRecDepth 100000 in
theorem loop_shape (hb : (hd.heap_1 w.params).lookup 351 = some ⟨oc, od, .func (fnOf name qual params body scope dV kV doc pm an cdv ct), osl⟩) : (∃ pos, hdS (stN 8 body) = .For (tgS (stN 8 body)) (itS (stN 8 body)) (forB (stN 8 body)) [] pos) ∧ ∀ env x, foldedSetIterable (itS (stN 8 body)) env x = pure x := by
  refine' fn_elim hb ?e ?k
  case e => k_dflt k_is
  case k =>
    rintro rfl rfl rfl
    exact ⟨⟨_, rfl⟩, fun _ _ => rfl⟩
set_option maxRecDepth 100000 in
set_option maxHeartbeats 2000000 in
theorem lawTop (hb : (hd.heap_1 w.params).lookup 351 = some ⟨oc, od, .func (fnOf name qual params body scope dV kV doc pm an cdv ct), osl⟩)
    {sl : Addr} {oC : Obj} {svs : List Value} {sns : List Int} {Q : Flow → Shared → Prop} (hE : PassesOwn (model prog w) (A.deeper (envOfC qual scope L f cd)) (envOfC qual scope L f cd) E)
    (PO : ProgOk prog) (F : Fr h₀ L s.heap m) (X : (hd.heap_1 w.params).In h₀) (T : Top p loose mean mg mb h₀) (N : News h₀ L s.heap [(L + 1, oC)]) (hCd : oC.data = .cell none) (hAf : A.frames = some []) (Rr : Rm A 81)
    (hsl : h₀.IsList sl svs.toArray) (hsi : IntsAre svs sns) (hsn : sns.length ≤ 63) (m1 : m (Str.ofString "script") = some (.ref sl))
    (h : ∀ h' d tk', Keep h₀ h' → Q (.ret (.bool true)) { s with heap := h', drawn := d, toks := tk' }) :
    wpAny (model prog w) (A.deeper (envOfC qual scope L f cd)) (execs body (envOfC qual scope L f cd)) Q E s := by
  obtain ⟨⟨pos8, e8⟩, fold8⟩ := loop_shape hb
  rw [body_shape hb]
  refine wpAny_execs_cons (head0 hb F X T N Rr hsl hsi hsn m1 fun h0 tk0 fd o row rvs rns n hf0 hri hrl ne1 ne2 F0 N0 => ?_)
  have hr0 : Live h₀ L [(row, PySem.W.listOf rvs.toArray n), (L + 1, oC)] fun h => h.IsList row rvs.toArray := fun _ _ N => News.isList N (.head _)
  have hne0 : ∀ q ∈ [(row, PySem.W.listOf rvs.toArray n), (L + 1, oC)], q.1 ≠ fd := cons_ne ne2 (cons_ne (Ne.symm ne1) (fun _ h => nomatch h))
  refine wpAny_execs_cons (head1 hb F0 X T N0 Rr hf0 hr0 hri hrl (by decide) (by decide) hne0 (if_pos rfl) fun h1 tk1 o1 at1 t v tl hf1 a1 a2 hp hth hAt1 hq1 hv F1 N1 => ?_)
  have sz := size_three hth
  have N1' := News.perm3 N1
  have hnC : ∀ q ∈ (row, PySem.W.listOf rvs.toArray n) :: tl, q.1 ≠ L + 1 := cons_ne (news_ne N1' (.tail _ (.tail _ (.head _))) (.head _) (by rw [hCd]; intro q; cases q)) (apart_tups N1' (.head _) (fun q hq => .tail _ (.tail _ (.tail _ hq))) hAt1 (tupObj_cell hCd))
  refine wpAny_execs_cons (head2 hb F1 X T N1' Rr hCd ne1 hnC (if_pos rfl) (Tv.grow hv (fun q hq => .tail _ hq)) (by omega) ⟨by omega, by omega⟩ hth fun h2 tk2 td odd oC2 l1 vs1 n1 l2 vs2 n2 tl1 tl2 hA1 hA2 hd1 hi2 hlen hod htd hCd2 hlt hft k1 k2 k3 k4 F2 N2 => ?_)
  have N2' : News h₀ L h2 ((td, odd) :: (fd, o1) :: (l2, PySem.W.listOf vs2.toArray n2) :: (l1, PySem.W.listOf vs1.toArray n1) :: (L + 1, oC2) :: (((row, PySem.W.listOf rvs.toArray n) :: tl) ++ tl1 ++ tl2)) := News.permA N2
  have s1 : ∀ q ∈ tl1, q ∈ ((row, PySem.W.listOf rvs.toArray n) :: tl) ++ tl1 ++ tl2 := fun q hq => List.mem_append_left _ (List.mem_append_right _ hq)
  have s2 : ∀ q ∈ tl2, q ∈ ((row, PySem.W.listOf rvs.toArray n) :: tl) ++ tl1 ++ tl2 := fun q hq => List.mem_append_right _ hq
  have s0 : ∀ q ∈ (row, PySem.W.listOf rvs.toArray n) :: tl, q ∈ ((row, PySem.W.listOf rvs.toArray n) :: tl) ++ tl1 ++ tl2 := fun q hq => List.mem_append_left _ (List.mem_append_left _ hq)
  generalize hn3 : (l2, PySem.W.listOf vs2.toArray n2) :: (l1, PySem.W.listOf vs1.toArray n1) :: (L + 1, oC2) :: (((row, PySem.W.listOf rvs.toArray n) :: tl) ++ tl1 ++ tl2) = nw3 at N2'
  have i3 : ∀ q ∈ ((row, PySem.W.listOf rvs.toArray n) :: tl) ++ tl1 ++ tl2, q ∈ nw3 := fun q hq => by rw [← hn3]; exact .tail _ (.tail _ (.tail _ hq))
  have hl2 : (l2, PySem.W.listOf vs2.toArray n2) ∈ nw3 := by rw [← hn3]; exact .head _
  have hl1 : (l1, PySem.W.listOf vs1.toArray n1) ∈ nw3 := by rw [← hn3]; exact .tail _ (.head _)
  have hC3 : (L + 1, oC2) ∈ nw3 := by rw [← hn3]; exact .tail _ (.tail _ (.head _))
  have hrow3 : (row, PySem.W.listOf rvs.toArray n) ∈ nw3 := i3 _ (s0 _ (.head _))
  have hne3 : ∀ q ∈ nw3, q.1 ≠ fd := by
    have fdt := hf1.noTup
    rw [← hn3]
    refine cons_ne (Ne.symm k2) (cons_ne (Ne.symm k1) (cons_ne (Ne.symm ne1) (for_all_app (for_all_app (cons_ne ne2 hq1) ?_) ?_)))
    · exact apart_tups N2' (.tail _ (.head _)) (fun q hq => .tail _ (.tail _ (i3 _ (s1 _ hq)))) hA1 fdt
    · exact apart_tups N2' (.tail _ (.head _)) (fun q hq => .tail _ (.tail _ (i3 _ (s2 _ hq)))) hA2 fdt
  have hne3t : ∀ q ∈ nw3, q.1 ≠ td := by
    rw [← hn3]
    exact hlt
  have hr3 : Live h₀ L nw3 fun h => h.IsList row rvs.toArray := fun _ _ N => News.isList N hrow3
  have hpc3 : Live h₀ L nw3 fun h => h.IsList l2 vs2.toArray := fun _ _ N => News.isList N hl2
  have hI3 : ItL (Tp h₀ nw3) vs2 (partsL t) := hi2.mono fun _ _ z => Tp.grow (fun q hq => i3 _ (s2 _ hq)) z
  have hd3 : TvL (Tp h₀ nw3) vs1 ((headL t).map itemPy) := hd1.mono fun _ _ z => Tp.grow (fun q hq => i3 _ (s1 _ hq)) z
  have hv3 : Tv (Tp h₀ nw3) v t.py := Tv.grow hv fun q hq => i3 _ (s0 _ (.tail _ hq))
  have gf2 : (fun y => if y = Str.ofString "pieces" then some (Value.ref l2) else if y = Str.ofString "heads" then some (Value.ref l1) else (fun y => if y = Str.ofString "term" then some v else (fun y => if y = Str.ofString "feed" then some (Value.ref fd) else m y) y) y) (Str.ofString "feed") = some (.ref fd) := (if_neg (by decide)).trans ((if_neg (by decide)).trans ((if_neg (by decide)).trans (if_pos rfl)))
  have gt2 : (fun y => if y = Str.ofString "pieces" then some (Value.ref l2) else if y = Str.ofString "heads" then some (Value.ref l1) else (fun y => if y = Str.ofString "term" then some v else (fun y => if y = Str.ofString "feed" then some (Value.ref fd) else m y) y) y) (Str.ofString "term") = some v := (if_neg (by decide)).trans ((if_neg (by decide)).trans (if_pos rfl))
  have gh2 : (fun y => if y = Str.ofString "pieces" then some (Value.ref l2) else if y = Str.ofString "heads" then some (Value.ref l1) else (fun y => if y = Str.ofString "term" then some v else (fun y => if y = Str.ofString "feed" then some (Value.ref fd) else m y) y) y) (Str.ofString "heads") = some (.ref l1) := (if_neg (by decide)).trans (if_pos rfl)
  have gp2 : (fun y => if y = Str.ofString "pieces" then some (Value.ref l2) else if y = Str.ofString "heads" then some (Value.ref l1) else (fun y => if y = Str.ofString "term" then some v else (fun y => if y = Str.ofString "feed" then some (Value.ref fd) else m y) y) y) (Str.ofString "pieces") = some (.ref l2) := if_pos rfl
  generalize (fun y => if y = Str.ofString "pieces" then some (Value.ref l2) else if y = Str.ofString "heads" then some (Value.ref l1) else (fun y => if y = Str.ofString "term" then some v else (fun y => if y = Str.ofString "feed" then some (Value.ref fd) else m y) y) y) = m2 at F2 gf2 gt2 gh2 gp2
  refine wpAny_execs_cons (head3 hb hE F2 X T N2' Rr hf1 hr3 hri hrl (by omega) (by omega) hne3 hne3t hft hpc3 hI3 hp (by omega) (by omega) hth hod hC3 hCd2 gf2 gp2 fun {h3 d3 tk3 odd3 o3 at3 P l r a b nw4 m3} hod3 hf3 b1 b2 sub4 hne4 hne4t c1 c2 c3 c4 c5 hm3 F3 N3 => ?_)
  refine wpAny_execs_cons (head4 hb F3 X T (News.perm2 N3) Rr (cons_ne hft hne4) fun {h4 tk4 ax ay nw6} sub6 hne6 hx hy F4 N4 => ?_)
  have s36 : ∀ q ∈ nw4, q ∈ nw6 := fun q hq => sub6 _ (.tail _ hq)
  refine wpAny_execs_cons (head5 hb F4 X T N4 Rr hne6 hx hy (s36 _ (sub4 _ hC3)) hCd2 ((if_neg (by decide)).trans (if_pos rfl)) (if_pos rfl) (sub6 _ (.head _)) hod3 htd fun {h5 d5 tk5 st J rd R vl vr nw7} hJ sub7 hne7 F5 N5 => ?_)
  have g5 : ∀ k v', k ≠ Str.ofString "steps" → k ≠ Str.ofString "y" → k ≠ Str.ofString "x" → k ≠ Str.ofString "k" → k ≠ Str.ofString "pair" → m2 k = some v' → (fun z => if z = Str.ofString "steps" then some (Value.ref st) else (fun z => if z = Str.ofString "y" then some (Value.ref ay) else if z = Str.ofString "x" then some (Value.ref ax) else m3 z) z) k = some v' := fun k v' a1 a2 a3 a4 a5 e => (if_neg a1).trans ((if_neg a2).trans ((if_neg a3).trans ((hm3 k a4 a5).trans e)))
  have gs5 : (fun z => if z = Str.ofString "steps" then some (Value.ref st) else (fun z => if z = Str.ofString "y" then some (Value.ref ay) else if z = Str.ofString "x" then some (Value.ref ax) else m3 z) z) (Str.ofString "steps") = some (.ref st) := if_pos rfl
  generalize (fun z => if z = Str.ofString "steps" then some (Value.ref st) else (fun z => if z = Str.ofString "y" then some (Value.ref ay) else if z = Str.ofString "x" then some (Value.ref ax) else m3 z) z) = m5 at F5 g5 gs5
  have s37 : ∀ q ∈ nw3, q ∈ nw7 := fun q hq => sub7 _ (s36 _ (sub4 _ hq))
  refine wpAny_execs_cons (head6 hb F5 X T N5 Rr hf3 (hr3.up s37) hri hrl (by omega) (by omega) hne7 (g5 _ _ (by decide) (by decide) (by decide) (by decide) (by decide) gf2) fun {h6 tk6 o6 at6 ot v1 v2 nb tb m6 u1 u2 nw8} hf6 d1 d2 sub8 hne8 ho hv1 hv2 S2 hm6 mo mn F6 N6 => ?_)
  have s48 : ∀ q ∈ nw4, q ∈ nw8 := fun q hq => sub8 _ (sub7 _ (s36 _ hq))
  have s38 : ∀ q ∈ nw3, q ∈ nw8 := fun q hq => s48 _ (sub4 _ hq)
  refine wpAny_execs_cons (head7 hb F6 X T N6 Rr hne8 hf6.noTup (s38 _ hC3) hCd2 (sub8 _ (sub7 _ (sub6 _ (.head _)))) hod3 htd (fun c => Tp.grow s48 (c1 c)) (fun c => Tv.grow (c2 c) s48) (fun c => Tv.grow (c3 c) s48) c4 c5 fun {h7 tk7 rn nw9 q0 q1 x0 x1 y0 y1 xs0 xs1 ys0 ys1 nx0 nx1 ny0 ny1} sub9 hne9 hR hrn e0 e1 e2 e3 e4 e5 F7 N7 => ?_)
  have s39 : ∀ q ∈ nw3, q ∈ nw9 := fun q hq => sub9 _ (s38 _ hq)
  have g7 : ∀ k v', k ≠ Str.ofString "runs" → k ≠ Str.ofString "other" → k ≠ Str.ofString "number" → m5 k = some v' → (fun z => if z = Str.ofString "runs" then some (Value.ref rn) else m6 z) k = some v' := fun k v' a1 a2 a3 e => (if_neg a1).trans ((hm6 k a2 a3).trans e)
  have Hm7 : Nm (fun z => if z = Str.ofString "runs" then some (Value.ref rn) else m6 z) st l1 rn ot fd v nb tb :=
    { steps := g7 _ _ (by decide) (by decide) (by decide) gs5
      term := g7 _ _ (by decide) (by decide) (by decide) (g5 _ _ (by decide) (by decide) (by decide) (by decide) (by decide) gt2)
      heads := g7 _ _ (by decide) (by decide) (by decide) (g5 _ _ (by decide) (by decide) (by decide) (by decide) (by decide) gh2)
      runs := if_pos rfl
      number := (if_neg (by decide)).trans mn
      other := (if_neg (by decide)).trans mo
      feed := g7 _ _ (by decide) (by decide) (by decide) (g5 _ _ (by decide) (by decide) (by decide) (by decide) (by decide) gf2) }
  have gp7 := g7 _ _ (by decide) (by decide) (by decide) (g5 _ _ (by decide) (by decide) (by decide) (by decide) (by decide) gp2)
  refine wpAny_execs_cons ?_
  rw [e8]
  refine for_gen ?_ (fold8 _) hE
  refine iter8 hb F7 X T N7 Rr hne9 hf6.noTup (hpc3.up s39) (hI3.mono fun _ _ z => Tp.grow s39 z) hp (by omega) hth gp7 fun {h8 tk8 D vsI nI nw10} sub10 hne10 hD hItems hvl F8 N8 => ?_
  have s310 : ∀ q ∈ nw3, q ∈ nw10 := fun q hq => sub10 _ (s39 _ hq)
  have s410 : ∀ q ∈ nw4, q ∈ nw10 := fun q hq => sub10 _ (sub9 _ (s48 _ hq))
  have s710 : ∀ q ∈ nw7, q ∈ nw10 := fun q hq => sub10 _ (sub9 _ (sub8 _ hq))
  have s810 : ∀ q ∈ nw8, q ∈ nw10 := fun q hq => sub10 _ (sub9 _ hq)
  obtain ⟨H, kH0, NH, kHL⟩ := live_heap (nw := nw10) F8 fun q hq => N8 q (.tail _ hq)
  have dt := drawn_three hp hth
  have lv : ∀ {P : Heap → Prop} {l}, Live h₀ L l P → (∀ q ∈ l, q ∈ nw10) → P H := fun x k => x.up k H kH0 NH
  have S : LS prog w H st J td rd R l1 rn P (fun c => bif c then q1 else q0) (fun c => bif c then x1 else x0) (fun c => bif c then y1 else y0) l r a b (fun c => bif c then xs1 else xs0) (fun c => bif c then ys1 else ys0) (fun c => bif c then nx1 else nx0) (fun c => bif c then ny1 else ny0) v vl vr t vs1 n1 :=
    { jat := lv hJ s710
      pair := fun c => (c1 c).live s410 H kH0 NH
      left := fun c => Tv.live (c2 c) s410 H kH0 NH
      right := fun c => Tv.live (c3 c) s410 H kH0 NH
      da := c4
      db := c5
      term := Tv.live hv3 s310 H kH0 NH
      dt := dt
      heads := HeadsV.live (s310 _ hl1) hd3 s310 H kH0 NH
      runs := lv hR sub10
      rns := hrn
      run := fun c => by cases c; exact lv e0 sub10; exact lv e1 sub10
      hx := fun c => by cases c; exact lv e2 sub10; exact lv e3 sub10
      hy := fun c => by cases c; exact lv e4 sub10; exact lv e5 sub10 }
  refine loopO hb hE S kHL PO F8 X T N8 hAf Rr hf6 (hr3.up s310) hri hrl (by omega) (by omega) hne10 (Tp.grow s810 ho) (Tv.grow hv1 s810) (Tv.grow hv2 s810) S2 hD hItems hvl (s310 _ hC3) hCd2 Hm7 fun h9 d9 tk9 m9 o9 F9 N9 Hm9 => ?_
  exact head9 hb F9 X T (fun q hq => N9 q (.tail _ hq)) Rr (Tv.live hv3 s310) dt (HeadsV.live (s310 _ hl1) hd3 s310) Hm9 fun h' d' tk' kp => h h' d' tk' kp
end
end
/-! LawZ -/
section
open PyProof.Rows.LCg
theorem progOk0 : ProgOk rw0.row.prog := ⟨by first | rfl | kernel_rfl | decide +kernel, by first | rfl | kernel_rfl | decide +kernel⟩
theorem room0 : Rm callerA 81 := ⟨rfl, by decide, by decide⟩
set_option maxRecDepth 100000 in
set_option maxHeartbeats 0 in
theorem said : rw0.wellSaid = true := by decide +kernel
set_option maxRecDepth 100000 in
set_option maxHeartbeats 0 in
theorem holds0 : rw0.Holds := by
  w_on
  refine holds_law said fun said' => ?_
  refine holds_open (q := vq) (loose := []) (Xt := fun s => xlAt vq [] s && recOk (RowW.records rw0.row.toRowW) s) (XP := XL vq []) (Yf := Hook.obs hook) (Ya := Hook.val hook) (YP := Hook.says hook) (N := 5402) left (Hook.of hook) (Hook.keeps hook) (fun s e => xl_of s (Bool.and_eq_true_iff.mp e).1) XL.keeps (by rfl) (by rfl) (by rfl) (fun s e => recFacts_of (Bool.and_eq_true_iff.mp e).2) (by rfl) said' (by decide +kernel) ⟨rfl, rfl, rfl, rfl, rfl, by decide +kernel⟩ ?hw ?hc
  case hw => w_witness2
  k_go0
  all_goals (try k_fold)
  rename Fr _ _ _ _ => F9
  rename News _ _ _ _ => N9
  rename_i _ _ hK
  refine' lawTop ?hb ?hE ?PO F9 ?X ?T N9 ?hCd ?hAf ?Rr ?hsl ?hsi ?hsn ?m1 ?h
  case PO => exact progOk0
  case X => k_asm
  case T => k_asm
  case hCd => assumption
  case hAf => rfl
  case Rr => exact room0
  case hsl => k_asm
  case hsi => k_asm
  case hsn => omega
  case m1 => rfl
  case hE => passes_own
  case h =>
    intro h' d tk' kp
    refine ⟨.inl ⟨.bool true, _, [], rfl, fun _ => rfl, .bool _, ?_, fun _ => ⟨List.nodup_nil, fun _ h => nomatch h⟩⟩, kp, rfl, by assumption⟩
    first | rfl | kernel_rfl | decide +kernel
  case hb => trace "HB"; k_dflt k_is
end
end Mine

theorem PySem.Challenge.cw_rg0120_01_holds : PySem.Challenge.rw_rg0120_01.Holds :=
  Mine.holds0
