import PyProof.Rows.All
import Wide.All
import OpenK.AllK
import Wide.FinOn
import PyProof.ExcBaseAll.Exception
import PyProof.InstStoreFacts
import PySem.Challenge.RW_pb0538_01
open PySem PySem.W PyProof.Rows
set_option Elab.async false
set_option maxRecDepth 100000
set_option maxHeartbeats 40000000
set_option linter.unusedVariables false
namespace Mine
/-- the text's statements, less the three that name its modules -/
noncomputable def vw : Program := view PySem.Challenge.rw_pb0538_01.row.toRowW.1 [1, 2, 3, 5, 7, 8, 9, 10, 11, 12, 13, 14, 15, 16, 17, 18, 19, 20, 21]

/-- the top's run over a tree of objects; S, D: the step and the codes' meaning -/
noncomputable def runT (S : (Code → Sem Fin) → Program → World → SharedT → Thread → Option (SharedT × Thread)) (D : Code → Sem Fin) (p : Program) (w : World) (m₀ : Nat) (ann : Option Value) : Nat → SharedT → Thread → Option SharedT
  | 0, _, _ => none
  | n + 1, s, t => match through t with
    | true => some s
    | false => match stepOk m₀ ann t with
      | false => none
      | true => match S D p w s t with
        | some (s', t') => runT S D p w m₀ ann n s' t'
        | none => none
theorem runT_of {tb : String → Option Builtin} {p : Program} {w : World} {m₀ : Nat} {ann : Option Value} : ∀ (n : Nat) (s : SharedT) (t : Thread) (r : SharedT), runT stepT (denote tb) p w m₀ ann n s t = some r → topRun tb p w m₀ ann n s.abs t = some r.abs
  | 0, _, _, _, h => by cases h
  | n + 1, s, t, r, h => by
    unfold runT at h
    unfold topRun
    cases he : through t with
    | true => rw [he] at h; cases h; rfl
    | false =>
      rw [he] at h
      cases hk : stepOk m₀ ann t with
      | false => rw [hk] at h; cases h
      | true =>
        rw [hk] at h
        cases hs : stepT (denote tb) p w s t with
        | none => rw [hs] at h; cases h
        | some q => obtain ⟨s₂, t₂⟩ := q; rw [hs] at h; rw [stepT_spec hs]; exact runT_of n s₂ t₂ r h
/-- the booted objects as a tree -/
noncomputable def tr (P : Params) : BT := (boot_heap P).objs.toList.zipIdx.foldl (fun t x => t.ins x.2 x.1) .nil
/-- the head's equation from one run behind the booted opening; S, D, L: quicker twins of the step, the codes' meaning, the look -/
theorem left_of {p q : Program} {loose : List Str} {Xt : Shared → Bool} {α : Type} {Yf : Shared → α} {Ya : World → α} {N m₀ : Nat} {ann : Option Value}
    {S : (Code → Sem Fin) → Program → World → SharedT → Thread → Option (SharedT × Thread)} {D : (String → Option Builtin) → Code → Sem Fin} {T : String → Option Builtin}
    (hS : @stepT = S) (hD : @denote = D) (hT : treeTable = T)
    (open_ : ∀ w : World, (fencedOpening treeTable p w N).map (fun s => (s.heap, s.gens, s.drawn, s.toks)) = some (boot_heap w.params, Array.mk [], boot_drawn, boot_toks))
    (boot : ∀ P : Params, absHeap (tr P) m₀ (boot_heap P).life = boot_heap P)
    (size : ∀ w : World, ((boot_heap w.params).isNs mainGlobals, (boot_heap w.params).objs.size, (boot_heap w.params).nsMap mainGlobals "__annotations__") = (true, m₀, ann))
    (h : ∀ w : World, (fun os => (runT S (D T) p w m₀ ann N ⟨tr w.params, m₀, (boot_heap w.params).life, Array.mk [], boot_drawn, boot_toks, os⟩ (topStub p)).map fun s =>
      ((staticsOk (importedModules p.main.body) (boot_heap w.params) s.abs.heap && namesBound p s.abs.heap && gensDone s.abs && laidKept (boot_heap w.params) s.abs.heap), openSeen q loose (importedModules p.main.body) Xt true s.abs, Yf s.abs)) = fun _ => some (true, openGood q loose, Ya w)) :
    LeftO p q loose Xt Yf Ya N := fun w => by
  subst hS hD hT
  obtain ⟨⟨h', gs, d, k, os⟩, e, e'⟩ := Option.map_eq_some_iff.mp (open_ w)
  obtain ⟨rfl, rfl, rfl, rfl⟩ : h' = boot_heap w.params ∧ gs = Array.mk [] ∧ d = boot_drawn ∧ k = boot_toks := by simpa using e'
  obtain ⟨z1, z2, z3⟩ : _ ∧ _ ∧ _ := by simpa only [Prod.mk.injEq] using size w
  obtain ⟨s₁, r, e2⟩ := Option.map_eq_some_iff.mp (congrFun (h w) os)
  obtain ⟨l1, l2, l3⟩ : _ ∧ _ ∧ _ := by simpa only [Prod.mk.injEq] using e2
  have r := runT_of _ _ _ _ r
  unfold SharedT.abs at r
  dsimp only at r
  rw [boot] at r
  have t : topFrom treeTable p w N ⟨boot_heap w.params, Array.mk [], boot_drawn, boot_toks, os⟩ = some s₁.abs := by
    unfold topFrom
    dsimp only
    rw [z1, z2, z3, r]
    show (match staticsOk (importedModules p.main.body) (boot_heap w.params) s₁.abs.heap && namesBound p s₁.abs.heap && gensDone s₁.abs && laidKept (boot_heap w.params) s₁.abs.heap with | true => some s₁.abs | false => none) = _
    rw [l1]
  unfold openEnds
  rw [e]
  simp only [Option.bind_some, t, Option.map_some, l2, l3]
end Mine
local macro_rules | `(tactic| o_law) => `(tactic| refine holds_law (by decide +kernel) fun said => ?_)
local macro_rules | `(tactic| o_head $H) => `(tactic| (refine holds_open (q := Mine.vw) (loose := []) (Xt := fun s => xlAt Mine.vw [] s && recOk (RowW.records PySem.Challenge.rw_pb0538_01.row.toRowW) s) (XP := XL Mine.vw []) (Yf := Hook.obs $H) (Ya := Hook.val $H) (YP := Hook.says $H) (N := 3652) ?hl (Hook.of $H) (Hook.keeps $H) (fun s e => xl_of s (Bool.and_eq_true_iff.mp e).1) XL.keeps (by rfl) (by rfl) (by rfl) (fun s e => recFacts_of (Bool.and_eq_true_iff.mp e).2) (by rfl) (by first | assumption | decide +kernel) (by decide +kernel) ⟨rfl, rfl, rfl, rfl, rfl, by decide +kernel⟩ ?hw ?hc; (case hl => exact Mine.left_of (m₀ := 11) (ann := some (Value.ref 6)) PySem.W.Fast.te10156331382660048174 PySem.W.Fast.te11892475500146522536 PySem.W.Fast.te14364793385576792824 (boot_open (by kernel_rfl) (by decide) (fun _ => by kernel_rfl)) (fun P => by kernel_rfl) (fun w => by kernel_rfl) (fun w => by kernel_rfl))))
namespace Mine
open_top hd for PySem.Challenge.rw_pb0538_01
end Mine
open PySem.Calls PySem.Spec PyProof.V
namespace Mine
abbrev PR : Program := PySem.Challenge.rw_pb0538_01.row.prog

/-- the names that the program's own top defines -/
abbrev LO : List Str := [Str.ofString "_law_pool", Str.ofString "_law_take", Str.ofString "_law_one", Str.ofString "_law_is_refused", Str.ofString "_law_families", Str.ofString "_law_built", Str.ofString "_law_kind", Str.ofString "_law_primary", Str.ofString "_law_hears", Str.ofString "_law_out", Str.ofString "_law_ports_right", Str.ofString "_law_vlan_right", Str.ofString "_law_refusal_right", Str.ofString "_law_told_first", Str.ofString "law", Str.ofString "SwitchError", Str.ofString "TableError", Str.ofString "StateError", Str.ofString "PrivateVlans"]
/-- a caller's frame at a call: what every contract wants of it -/
structure Cx (w : World) (mean : ExcName → Option Value) (mg mb : Str → Option Value) (outer : List Env) (A₀ : Around) (base h₀ : Heap) (L : Addr) (m : Str → Option Value) (cs : Scope) (h : Heap) (news : List (Addr × Obj)) : Prop where
  B : Below A₀ base outer h₀
  F : Fr h₀ L h m
  X : (hd.heap_1 w.params).In h₀
  N : News h₀ L h news
  T : Top topProg LO mean mg mb h₀
  hk : cs.kind = .function

/-- what a call hands back: the frame, a ledger, a value -/
abbrev Ret (h₀ : Heap) (L : Addr) (m : Str → Option Value) (s : Shared) (Q : Value → Shared → Prop) (news : List (Addr × Obj)) (P : Value → Prop) : Prop :=
  ∀ r h' tk', Fr h₀ L h' m → News h₀ L h' news → P r → Q r { s with heap := h', toks := tk' }

abbrev IsI (i : Int) (v : Value) : Prop := ∃ t, v = .int i t
abbrev IsS (x : Str) (v : Value) : Prop := ∃ t, v = .str x t

/-- dicts as plain tables -/
def IS (kv : List (Int × Str)) : List (PyData × PyData) := kv.map fun p => (.int p.1, .str p.2)
def II (kv : List (Int × Int)) : List (PyData × PyData) := kv.map fun p => (.int p.1, .int p.2)
theorem lookup_IS (i : Int) : ∀ kv : List (Int × Str), Spec.lookup (.int i) (IS kv) = (kv.lookup i).map .str
  | [] => rfl
  | (j, x) :: r => by
    have ih := lookup_IS i r
    have e1 : Spec.lookup (.int i) (IS ((j, x) :: r)) = if decide (j = i) = true then some (.str x) else Spec.lookup (.int i) (IS r) := by
      show (if Spec.same (.int j) (.int i) = true then _ else _) = _
      rw [same_int]; rfl
    rw [e1, ih, List.lookup_cons]
    by_cases e : j = i
    · subst e; simp
    · have : (i == j) = false := by simp; exact fun q => e q.symm
      simp [e, this]
theorem lookup_II (i : Int) : ∀ kv : List (Int × Int), Spec.lookup (.int i) (II kv) = (kv.lookup i).map .int
  | [] => rfl
  | (j, x) :: r => by
    have ih := lookup_II i r
    have e1 : Spec.lookup (.int i) (II ((j, x) :: r)) = if decide (j = i) = true then some (.int x) else Spec.lookup (.int i) (II r) := by
      show (if Spec.same (.int j) (.int i) = true then _ else _) = _
      rw [same_int]; rfl
    rw [e1, ih, List.lookup_cons]
    by_cases e : j = i
    · subst e; simp
    · have : (i == j) = false := by simp; exact fun q => e q.symm
      simp [e, this]

/-- a dict of the ledger -/
def DictAt (w : World) (news : List (Addr × Obj)) (d : Addr) (D : List (PyData × PyData)) : Prop :=
  ∃ o kvs, (d, o) ∈ news ∧ (d == sysModules) = false ∧ o.IsDictOf (intKind PR w) kvs ∧ FlatPairs PyData.int kvs D
theorem DictAt.mono {w : World} {news news' : List (Addr × Obj)} {d : Addr} {D : List (PyData × PyData)} (x : DictAt w news d D) (h : ∀ p ∈ news, p ∈ news') : DictAt w news' d D :=
  let ⟨o, kvs, a, b, c, e⟩ := x; ⟨o, kvs, h _ a, b, c, e⟩

/-- the object of class PrivateVlans and the four dicts' addresses -/
def PrivAt (news : List (Addr × Obj)) (P kd pd od md : Addr) : Prop :=
  ∃ (dx : Addr) (h1 h2 h3 h4 : Int) (t1 t2 t3 t4 : Tok) (n : Nat), (P, instObj 162 dx) ∈ news ∧
    (dx, dictOf [⟨h1, .str "kinds" t1, .ref kd⟩, ⟨h2, .str "primary" t2, .ref pd⟩, ⟨h3, .str "hosts" t3, .ref od⟩, ⟨h4, .str "promiscuous" t4, .ref md⟩] n) ∈ news
theorem PrivAt.mono {news news' : List (Addr × Obj)} {P kd pd od md : Addr} (x : PrivAt news P kd pd od md) (h : ∀ p ∈ news, p ∈ news') : PrivAt news' P kd pd od md :=
  let ⟨dx, h1, h2, h3, h4, t1, t2, t3, t4, n, a, b⟩ := x; ⟨dx, h1, h2, h3, h4, t1, t2, t3, t4, n, h _ a, h _ b⟩

theorem ltm_ne {l : List (Addr × Obj)} {D x : Nat} {o : Obj} (h : ∀ p ∈ l, @LT.lt Nat _ p.1 D) (m : (x, o) ∈ l) : x ≠ D := Nat.ne_of_lt (h _ m)
theorem ltm_en {l : List (Addr × Obj)} {D x : Nat} {o : Obj} (h : ∀ p ∈ l, @LT.lt Nat _ p.1 D) (m : (x, o) ∈ l) : D ≠ x := Nat.ne_of_gt (h _ m)
theorem ltm_all {l r : List (Addr × Obj)} {D : Nat} (h : ∀ p ∈ l, @LT.lt Nat _ p.1 D) (s : ∀ q ∈ r, q ∈ l) : ∀ q ∈ r, @Ne Nat q.1 D := fun q hq => Nat.ne_of_lt (h q (s q hq))
theorem ltm_lt {l : List (Addr × Obj)} {D x : Nat} {o : Obj} (h : ∀ p ∈ l, @LT.lt Nat _ p.1 D) (m : (x, o) ∈ l) : x < D := h _ m
theorem ltm_c1 {l : List (Addr × Obj)} {D x : Nat} {o : Obj} (h : ∀ p ∈ l, @LT.lt Nat _ p.1 D) (m : (x, o) ∈ l) : x ≠ D + 1 := Nat.ne_of_lt (Nat.lt_of_lt_of_le (h _ m) (Nat.le_add_right D 1))
theorem ltm_d1 {l : List (Addr × Obj)} {D x : Nat} {o : Obj} (h : ∀ p ∈ l, @LT.lt Nat _ p.1 D) (m : (x, o) ∈ l) : D + 1 ≠ x := Ne.symm (ltm_c1 h m)
theorem ltm_a1 {l r : List (Addr × Obj)} {D : Nat} (h : ∀ p ∈ l, @LT.lt Nat _ p.1 D) (s : ∀ q ∈ r, q ∈ l) : ∀ q ∈ r, @Ne Nat q.1 (D + 1) := fun q hq => ltm_c1 h (s q hq)
theorem ltm_c2 {l : List (Addr × Obj)} {D x : Nat} {o : Obj} (h : ∀ p ∈ l, @LT.lt Nat _ p.1 D) (m : (x, o) ∈ l) : x ≠ D + 1 + 1 := Nat.ne_of_lt (Nat.lt_of_lt_of_le (h _ m) (Nat.le_add_right D 2))
theorem ltm_d2 {l : List (Addr × Obj)} {D x : Nat} {o : Obj} (h : ∀ p ∈ l, @LT.lt Nat _ p.1 D) (m : (x, o) ∈ l) : D + 1 + 1 ≠ x := Ne.symm (ltm_c2 h m)
theorem ltm_a2 {l r : List (Addr × Obj)} {D : Nat} (h : ∀ p ∈ l, @LT.lt Nat _ p.1 D) (s : ∀ q ∈ r, q ∈ l) : ∀ q ∈ r, @Ne Nat q.1 (D + 1 + 1) := fun q hq => ltm_c2 h (s q hq)
theorem ltm_c3 {l : List (Addr × Obj)} {D x : Nat} {o : Obj} (h : ∀ p ∈ l, @LT.lt Nat _ p.1 D) (m : (x, o) ∈ l) : x ≠ D + 1 + 1 + 1 := Nat.ne_of_lt (Nat.lt_of_lt_of_le (h _ m) (Nat.le_add_right D 3))
theorem ltm_d3 {l : List (Addr × Obj)} {D x : Nat} {o : Obj} (h : ∀ p ∈ l, @LT.lt Nat _ p.1 D) (m : (x, o) ∈ l) : D + 1 + 1 + 1 ≠ x := Ne.symm (ltm_c3 h m)
theorem ltm_a3 {l r : List (Addr × Obj)} {D : Nat} (h : ∀ p ∈ l, @LT.lt Nat _ p.1 D) (s : ∀ q ∈ r, q ∈ l) : ∀ q ∈ r, @Ne Nat q.1 (D + 1 + 1 + 1) := fun q hq => ltm_c3 h (s q hq)
theorem ltm_c4 {l : List (Addr × Obj)} {D x : Nat} {o : Obj} (h : ∀ p ∈ l, @LT.lt Nat _ p.1 D) (m : (x, o) ∈ l) : x ≠ D + 1 + 1 + 1 + 1 := Nat.ne_of_lt (Nat.lt_of_lt_of_le (h _ m) (Nat.le_add_right D 4))
theorem ltm_d4 {l : List (Addr × Obj)} {D x : Nat} {o : Obj} (h : ∀ p ∈ l, @LT.lt Nat _ p.1 D) (m : (x, o) ∈ l) : D + 1 + 1 + 1 + 1 ≠ x := Ne.symm (ltm_c4 h m)
theorem ltm_a4 {l r : List (Addr × Obj)} {D : Nat} (h : ∀ p ∈ l, @LT.lt Nat _ p.1 D) (s : ∀ q ∈ r, q ∈ l) : ∀ q ∈ r, @Ne Nat q.1 (D + 1 + 1 + 1 + 1) := fun q hq => ltm_c4 h (s q hq)
theorem ltm_c5 {l : List (Addr × Obj)} {D x : Nat} {o : Obj} (h : ∀ p ∈ l, @LT.lt Nat _ p.1 D) (m : (x, o) ∈ l) : x ≠ D + 1 + 1 + 1 + 1 + 1 := Nat.ne_of_lt (Nat.lt_of_lt_of_le (h _ m) (Nat.le_add_right D 5))
theorem ltm_d5 {l : List (Addr × Obj)} {D x : Nat} {o : Obj} (h : ∀ p ∈ l, @LT.lt Nat _ p.1 D) (m : (x, o) ∈ l) : D + 1 + 1 + 1 + 1 + 1 ≠ x := Ne.symm (ltm_c5 h m)
theorem ltm_a5 {l r : List (Addr × Obj)} {D : Nat} (h : ∀ p ∈ l, @LT.lt Nat _ p.1 D) (s : ∀ q ∈ r, q ∈ l) : ∀ q ∈ r, @Ne Nat q.1 (D + 1 + 1 + 1 + 1 + 1) := fun q hq => ltm_c5 h (s q hq)
theorem dn {p : Addr × Obj} {x y : List (Addr × Obj)} (h : ∀ q ∈ x, q ∈ y) : ∀ q ∈ x, q ∈ p :: y := fun q hq => .tail _ (h q hq)
theorem fill : (hd.heap_1 = hd.heap_1) ∧ (PySem.Challenge.rw_pb0538_01 = PySem.Challenge.rw_pb0538_01) := by k_fill; exact ⟨rfl, rfl⟩
end Mine
local macro_rules | `(tactic| walk_at $s:str) => `(tactic| k_extra $s)
local macro_rules | `(tactic| k_lt $h:ident) => `(tactic| skip)
local macro_rules | `(tactic| k_ne) => `(tactic| k_extra "k_ne")
local macro_rules | `(tactic| k_all) => `(tactic| k_extra "k_all")
local macro_rules | `(tactic| k_mem) => `(tactic| k_extra "k_mem")
namespace Mine
theorem rowsP1_0 : True := by
  k_with_none
  k_with "mine down" => (first | exact fun _ h => h | (refine dn ?_; walk_at "mine down"))
  k_with "k_ne" => (first | with_reducible assumption | exact Ne.symm (by with_reducible assumption) | exact ltm_ne (by with_reducible assumption) (by k_mem) | exact ltm_en (by with_reducible assumption) (by k_mem) | exact Nat.ne_of_lt (by with_reducible assumption) | exact Nat.ne_of_gt (by with_reducible assumption) | exact ltm_c1 (by with_reducible assumption) (by k_mem) | exact ltm_d1 (by with_reducible assumption) (by k_mem) | exact ltm_c2 (by with_reducible assumption) (by k_mem) | exact ltm_d2 (by with_reducible assumption) (by k_mem) | exact ltm_c3 (by with_reducible assumption) (by k_mem) | exact ltm_d3 (by with_reducible assumption) (by k_mem) | exact ltm_c4 (by with_reducible assumption) (by k_mem) | exact ltm_d4 (by with_reducible assumption) (by k_mem) | exact ltm_c5 (by with_reducible assumption) (by k_mem) | exact ltm_d5 (by with_reducible assumption) (by k_mem) | (refine neN ?_; (try dsimp only); omega))
  k_with "k_all" => (first | exact ltm_all (by with_reducible assumption) (by walk_at "mine down") | exact ltm_a1 (by with_reducible assumption) (by walk_at "mine down") | exact ltm_a2 (by with_reducible assumption) (by walk_at "mine down") | exact ltm_a3 (by with_reducible assumption) (by walk_at "mine down") | exact ltm_a4 (by with_reducible assumption) (by walk_at "mine down") | exact ltm_a5 (by with_reducible assumption) (by walk_at "mine down"))
  trivial
theorem fill1 : (hd.heap_1 = hd.heap_1) ∧ (PySem.Challenge.rw_pb0538_01 = PySem.Challenge.rw_pb0538_01) := by k_fill; exact ⟨rfl, rfl⟩
section
variable {prog : Program} {w : World} {A : Around} {E : Value → Shared → Prop} {s : Shared} {d : Addr} {D : List (PyData × PyData)}
theorem in_hit {i : Int} {t : Tok} {dv : PyData} {Q : Value → Shared → Prop} (T : IntTab prog w s.heap d D) (hl : Spec.lookup (.int i) D = some dv) (h : Q (.bool true) { s with toks := s.toks + 1 }) :
    wpAny (model prog w) A (compareOp .In (.int i t) (.ref d)) Q E s := in_intTab T (by rw [hl]; exact h)
theorem in_miss {i : Int} {t : Tok} {Q : Value → Shared → Prop} (T : IntTab prog w s.heap d D) (hl : Spec.lookup (.int i) D = none) (h : Q (.bool false) { s with toks := s.toks + 1 }) :
    wpAny (model prog w) A (compareOp .In (.int i t) (.ref d)) Q E s := in_intTab T (by rw [hl]; exact h)
theorem notin_hit {i : Int} {t : Tok} {dv : PyData} {Q : Value → Shared → Prop} (T : IntTab prog w s.heap d D) (hl : Spec.lookup (.int i) D = some dv) (h : Q (.bool false) { s with toks := s.toks + 1 }) :
    wpAny (model prog w) A (compareOp .NotIn (.int i t) (.ref d)) Q E s := notin_intTab T (by rw [hl]; exact h)
theorem notin_miss {i : Int} {t : Tok} {Q : Value → Shared → Prop} (T : IntTab prog w s.heap d D) (hl : Spec.lookup (.int i) D = none) (h : Q (.bool true) { s with toks := s.toks + 1 }) :
    wpAny (model prog w) A (compareOp .NotIn (.int i t) (.ref d)) Q E s := notin_intTab T (by rw [hl]; exact h)
end
theorem flat_IS {kv : List (Int × Str)} {i : Int} {x : Str} {v : Value} (h : Flat v ((Spec.lookup (.int i) (IS kv)).getD (.str x))) : IsS ((kv.lookup i).getD x) v := by
  rw [lookup_IS] at h
  cases e : kv.lookup i with
  | none => rw [e] at h; exact Flat.str_inv h
  | some y => rw [e] at h; exact Flat.str_inv h
theorem flat_II {kv : List (Int × Int)} {i x : Int} {v : Value} (h : Flat v ((Spec.lookup (.int i) (II kv)).getD (.int x))) : IsI ((kv.lookup i).getD x) v := by
  rw [lookup_II] at h
  cases e : kv.lookup i with
  | none => rw [e] at h; exact Flat.int_inv h
  | some y => rw [e] at h; exact Flat.int_inv h
theorem look_some {kv : List (Int × Int)} {i x : Int} (e : kv.lookup i = some x) : Spec.lookup (.int i) (II kv) = some (.int x) := by rw [lookup_II, e]; rfl
theorem look_none {kv : List (Int × Int)} {i : Int} (e : kv.lookup i = none) : Spec.lookup (.int i) (II kv) = none := by rw [lookup_II, e]; rfl
theorem lookS_some {kv : List (Int × Str)} {i : Int} {x : Str} (e : kv.lookup i = some x) : Spec.lookup (.int i) (IS kv) = some (.str x) := by rw [lookup_IS, e]; rfl
theorem lookS_none {kv : List (Int × Str)} {i : Int} (e : kv.lookup i = none) : Spec.lookup (.int i) (IS kv) = none := by rw [lookup_IS, e]; rfl

theorem rowsP1_1 : True := by
  k_with "compareOp In int ref" => (k_here; k_dflt (first | refine in_hit (by k_tabat) (by assumption) ?_ | refine in_miss (by k_tabat) (by assumption) ?_))
  k_with "compareOp NotIn int ref" => (k_here; k_dflt (first | refine notin_hit (by k_tabat) (by assumption) ?_ | refine notin_miss (by k_tabat) (by assumption) ?_))
  k_with "mine cx" => exact ⟨by k_asm, by k_asm, by k_asm, by k_asm, by k_asm, by first | exact rfl | assumption⟩
  k_with "mine sub" => (first | exact fun _ h => h | exact fun _ h => List.mem_cons_of_mem _ h | exact fun _ h => List.mem_cons_of_mem _ (List.mem_cons_of_mem _ h) | (intro p9 h9; simp only [List.mem_append, List.mem_cons] at h9 ⊢; simp only [h9, true_or, or_true]; done))
  k_with "mine priv" => (first | assumption | exact PrivAt.mono (by assumption) (by walk_at "mine sub"))
  k_with "mine dict" => (first | assumption | exact DictAt.mono (by assumption) (by walk_at "mine sub"))
  k_with "mine room" => ((try simp only [depth_under_make, depth_under_kw, depth_in1, depth_deeper, depth_caller, units_in1, units_deeper, Around.mark_units, units_caller]); (try dsimp only [ktrTop]); omega)
  trivial
section
variable {w : World} {mean : ExcName → Option Value} {mg mb : Str → Option Value} {dp un : Nat} {gd : Option (List Code)} {cn : Str} {cs : Scope} {a : Addr} {ccd : Value} {cl : List (Str × Addr)} {outer : List Env} {A₀ : Around} {base h₀ : Heap} {L : Addr} {m : Str → Option Value} {s : Shared} {news : List (Addr × Obj)} {Q E : Value → Shared → Prop}
  {P kd pd od md : Addr} {DK : List (Int × Str)} {DP DH DM : List (Int × Int)}

theorem c_kind_of (cx : Cx w mean mg mb outer A₀ base h₀ L m cs s.heap news) (hd : dp + 1 ≤ 500) (hu : un + 10 ≤ 5000)
    (hp : PrivAt news P kd pd od md) (hK : DictAt w news kd (IS DK)) (v : Int) (t : Tok)
    (ret : Ret h₀ L m s Q news (IsS ((DK.lookup v).getD "plain"))) :
    wpAny (model PR w) (ktrTop dp un gd cn cs L a ccd cl outer) (call (.ref 119) [.ref P, .int v t]) Q E s := by
  obtain ⟨B, F, X, N, T, hk⟩ := cx
  obtain ⟨dx, h1, h2, h3, h4, t1, t2, t3, t4, n, mP, mD⟩ := hp
  obtain ⟨oK, kvsK, mK, loK, dK, fK⟩ := hK
  refine wpAny_call ?_
  k_dflt ktr_enter
  k_steps
  exact ret _ _ _ (by k_asm) (by k_asm) (flat_IS (by assumption))

theorem c_vfl (cx : Cx w mean mg mb outer A₀ base h₀ L m cs s.heap news) (hd : dp + 1 ≤ 500) (hu : un + 10 ≤ 5000)
    (hp : PrivAt news P kd pd od md) (hP : DictAt w news pd (II DP)) (v : Int) (t : Tok)
    (ret : Ret h₀ L m s Q news (IsI ((DP.lookup v).getD v))) :
    wpAny (model PR w) (ktrTop dp un gd cn cs L a ccd cl outer) (call (.ref 138) [.ref P, .int v t]) Q E s := by
  obtain ⟨B, F, X, N, T, hk⟩ := cx
  obtain ⟨dx, h1, h2, h3, h4, t1, t2, t3, t4, n, mP, mD⟩ := hp
  obtain ⟨oP, kvsP, mP', loP, dP, fP⟩ := hP
  refine wpAny_call ?_
  k_dflt ktr_enter
  k_steps
  exact ret _ _ _ (by k_asm) (by k_asm) (flat_II (by assumption))

theorem c_need_plain (cx : Cx w mean mg mb outer A₀ base h₀ L m cs s.heap news) (hd : dp + 1 ≤ 500) (hu : un + 10 ≤ 5000)
    (hp : PrivAt news P kd pd od md) (hK : DictAt w news kd (IS DK)) (v : Int) (t : Tok) (e : DK.lookup v = none)
    (ret : Ret h₀ L m s Q news (· = .none)) :
    wpAny (model PR w) (ktrTop dp un gd cn cs L a ccd cl outer) (call (.ref 91) [.ref P, .int v t]) Q E s := by
  obtain ⟨B, F, X, N, T, hk⟩ := cx
  obtain ⟨dx, h1, h2, h3, h4, t1, t2, t3, t4, n, mP, mD⟩ := hp
  obtain ⟨oK, kvsK, mK, loK, dK, fK⟩ := hK
  have hl := lookS_none e
  refine wpAny_call ?_
  k_dflt ktr_enter
  k_steps
  exact ret _ _ _ (by k_asm) (by k_asm) rfl

theorem c_need_free (cx : Cx w mean mg mb outer A₀ base h₀ L m cs s.heap news) (hd : dp + 1 ≤ 500) (hu : un + 10 ≤ 5000)
    (hp : PrivAt news P kd pd od md) (hH : DictAt w news od (II DH)) (hM : DictAt w news md (II DM)) (v : Int) (t : Tok) (e1 : DH.lookup v = none) (e2 : DM.lookup v = none)
    (ret : Ret h₀ L m s Q news (· = .none)) :
    wpAny (model PR w) (ktrTop dp un gd cn cs L a ccd cl outer) (call (.ref 112) [.ref P, .int v t]) Q E s := by
  obtain ⟨B, F, X, N, T, hk⟩ := cx
  obtain ⟨dx, h1, h2, h3, h4, t1, t2, t3, t4, n, mP, mD⟩ := hp
  obtain ⟨oH, kvsH, mH, loH, dH, fH⟩ := hH
  obtain ⟨oM, kvsM, mM, loM, dM, fM⟩ := hM
  have hl := look_none e1
  have hl2 := look_none e2
  refine wpAny_call ?_
  k_dflt ktr_enter
  k_steps
  exact ret _ _ _ (by k_asm) (by k_asm) rfl

theorem c_own_vlan (cx : Cx w mean mg mb outer A₀ base h₀ L m cs s.heap news) (hd : dp + 1 ≤ 500) (hu : un + 10 ≤ 5000)
    (hp : PrivAt news P kd pd od md) (hH : DictAt w news od (II DH)) (hM : DictAt w news md (II DM)) (p v : Int) (t t' : Tok)
    (ret : Ret h₀ L m s Q news (IsI (match DH.lookup p with | some x => x | none => (DM.lookup p).getD v))) :
    wpAny (model PR w) (ktrTop dp un gd cn cs L a ccd cl outer) (call (.ref 145) [.ref P, .int p t, .int v t']) Q E s := by
  obtain ⟨B, F, X, N, T, hk⟩ := cx
  obtain ⟨dx, h1, h2, h3, h4, t1, t2, t3, t4, n, mP, mD⟩ := hp
  obtain ⟨oH, kvsH, mH, loH, dH, fH⟩ := hH
  obtain ⟨oM, kvsM, mM, loM, dM, fM⟩ := hM
  cases e : DH.lookup p with
  | some x =>
    have hl := look_some e
    rw [e] at ret
    refine wpAny_call ?_
    k_dflt ktr_enter
    k_steps
    exact ret _ _ _ (by k_asm) (by k_asm) (Flat.int_inv (by assumption))
  | none =>
    have hl := look_none e
    rw [e] at ret
    refine wpAny_call ?_
    k_dflt ktr_enter
    k_steps
    exact ret _ _ _ (by k_asm) (by k_asm) (flat_II (by assumption))
end
end Mine
namespace Mine
theorem rowsP2_0 : True := by
  k_with_none
  k_with "mine down" => (first | exact fun _ h => h | (refine dn ?_; walk_at "mine down"))
  k_with "k_ne" => (first | with_reducible assumption | exact Ne.symm (by with_reducible assumption) | exact ltm_ne (by with_reducible assumption) (by k_mem) | exact ltm_en (by with_reducible assumption) (by k_mem) | exact Nat.ne_of_lt (by with_reducible assumption) | exact Nat.ne_of_gt (by with_reducible assumption) | exact ltm_c1 (by with_reducible assumption) (by k_mem) | exact ltm_d1 (by with_reducible assumption) (by k_mem) | exact ltm_c2 (by with_reducible assumption) (by k_mem) | exact ltm_d2 (by with_reducible assumption) (by k_mem) | exact ltm_c3 (by with_reducible assumption) (by k_mem) | exact ltm_d3 (by with_reducible assumption) (by k_mem) | exact ltm_c4 (by with_reducible assumption) (by k_mem) | exact ltm_d4 (by with_reducible assumption) (by k_mem) | exact ltm_c5 (by with_reducible assumption) (by k_mem) | exact ltm_d5 (by with_reducible assumption) (by k_mem) | (refine neN ?_; (try dsimp only); omega))
  k_with "k_all" => (first | exact ltm_all (by with_reducible assumption) (by walk_at "mine down") | exact ltm_a1 (by with_reducible assumption) (by walk_at "mine down") | exact ltm_a2 (by with_reducible assumption) (by walk_at "mine down") | exact ltm_a3 (by with_reducible assumption) (by walk_at "mine down") | exact ltm_a4 (by with_reducible assumption) (by walk_at "mine down") | exact ltm_a5 (by with_reducible assumption) (by walk_at "mine down"))
  trivial
theorem fill2 : (hd.heap_1 = hd.heap_1) ∧ (PySem.Challenge.rw_pb0538_01 = PySem.Challenge.rw_pb0538_01) := by k_fill; exact ⟨rfl, rfl⟩
theorem rowsP2_1 : True := by
  k_with "compareOp In int ref" => (k_here; k_dflt (first | refine in_hit (by k_tabat) (by assumption) ?_ | refine in_miss (by k_tabat) (by assumption) ?_))
  k_with "compareOp NotIn int ref" => (k_here; k_dflt (first | refine notin_hit (by k_tabat) (by assumption) ?_ | refine notin_miss (by k_tabat) (by assumption) ?_))
  k_with "mine cx" => exact ⟨by k_asm, by k_asm, by k_asm, by k_asm, by k_asm, by first | exact rfl | assumption⟩
  k_with "mine sub" => (first | exact fun _ h => h | exact fun _ h => List.mem_cons_of_mem _ h | exact fun _ h => List.mem_cons_of_mem _ (List.mem_cons_of_mem _ h) | (intro p9 h9; simp only [List.mem_append, List.mem_cons] at h9 ⊢; simp only [h9, true_or, or_true]; done))
  k_with "mine priv" => (first | assumption | exact PrivAt.mono (by assumption) (by walk_at "mine sub"))
  k_with "mine dict" => (first | assumption | exact DictAt.mono (by assumption) (by walk_at "mine sub"))
  k_with "mine room" => ((try simp only [depth_under_make, depth_under_kw, depth_in1, depth_deeper, depth_caller, units_in1, units_deeper, Around.mark_units, units_caller]); (try dsimp only [ktrTop]); omega)
  k_with "call ref" => (k_here; (with_reducible show wpAny _ _ (call (Value.ref 119) _) _ _ _); k_dflt (refine' c_kind_of ?zqcx ?zqd ?zqu ?zqp ?zqK _ _ ?_; (case zqcx => walk_at "mine cx"); (case zqd => walk_at "mine room"); (case zqu => walk_at "mine room"); (case zqp => walk_at "mine priv"); (case zqK => walk_at "mine dict")); intro r' h' tk' F' N' hr'; obtain ⟨t', er'⟩ := hr'; subst er'; (try dsimp only))
  k_with "call ref" => (k_here; (with_reducible show wpAny _ _ (call (Value.ref 138) _) _ _ _); k_dflt (refine' c_vfl ?zqcx ?zqd ?zqu ?zqp ?zqK _ _ ?_; (case zqcx => walk_at "mine cx"); (case zqd => walk_at "mine room"); (case zqu => walk_at "mine room"); (case zqp => walk_at "mine priv"); (case zqK => walk_at "mine dict")); intro r' h' tk' F' N' hr'; obtain ⟨t', er'⟩ := hr'; subst er'; (try dsimp only))
  trivial
abbrev vflV (DP : List (Int × Int)) (v : Int) : Int := (DP.lookup v).getD v
theorem isI_of {x i : Int} {t : Tok} (e : x = i) : IsI i (.int x t) := ⟨t, by rw [e]⟩
theorem rowsP2_2 : True := by
  k_with "mine fin" => (first | rfl | ((try dsimp only [vflV]); split <;> first | rfl | contradiction | (split <;> first | rfl | contradiction)))
  trivial
section
variable {w : World} {mean : ExcName → Option Value} {mg mb : Str → Option Value} {dp un : Nat} {gd : Option (List Code)} {cn : Str} {cs : Scope} {a : Addr} {ccd : Value} {cl : List (Str × Addr)} {outer : List Env} {A₀ : Around} {base h₀ : Heap} {L : Addr} {m : Str → Option Value} {s : Shared} {news : List (Addr × Obj)} {Q E : Value → Shared → Prop}
  {P kd pd od md : Addr} {DK : List (Int × Str)} {DP DH DM : List (Int × Int)}

def outM (DP DM : List (Int × Int)) (p v : Int) : Int := match DM.lookup p with
  | some y => if y = vflV DP v then y else v
  | none => v
def outV (DP DH DM : List (Int × Int)) (p v : Int) : Int := match DH.lookup p with
  | some x => if vflV DP x = vflV DP v then x else outM DP DM p v
  | none => outM DP DM p v

theorem c_out_vlan (cx : Cx w mean mg mb outer A₀ base h₀ L m cs s.heap news) (hd : dp + 2 ≤ 500) (hu : un + 20 ≤ 5000)
    (hp : PrivAt news P kd pd od md) (hP : DictAt w news pd (II DP)) (hH : DictAt w news od (II DH)) (hM : DictAt w news md (II DM)) (p v : Int) (t t' : Tok)
    (ret : Ret h₀ L m s Q news (IsI (outV DP DH DM p v))) :
    wpAny (model PR w) (ktrTop dp un gd cn cs L a ccd cl outer) (call (.ref 152) [.ref P, .int p t, .int v t']) Q E s := by
  obtain ⟨B, F, X, N, T, hk⟩ := cx
  have hp0 := hp
  have hP0 := hP
  obtain ⟨dx, h1, h2, h3, h4, t1, t2, t3, t4, n, mP, mD⟩ := hp
  obtain ⟨oH, kvsH, mH, loH, dH, fH⟩ := hH
  obtain ⟨oM, kvsM, mM, loM, dM, fM⟩ := hM
  unfold outV outM at ret
  cases e : DH.lookup p with
  | some x =>
    have hl := look_some e
    rw [e] at ret
    cases e2 : DM.lookup p with
    | some y =>
      have hl2 := look_some e2
      rw [e2] at ret
      refine wpAny_call ?_
      k_dflt ktr_enter
      k_steps
      all_goals exact ret _ _ _ (by k_asm) (by k_asm) (isI_of (by walk_at "mine fin"))
    | none =>
      have hl2 := look_none e2
      rw [e2] at ret
      refine wpAny_call ?_
      k_dflt ktr_enter
      k_steps
      all_goals exact ret _ _ _ (by k_asm) (by k_asm) (isI_of (by walk_at "mine fin"))
  | none =>
    have hl := look_none e
    rw [e] at ret
    cases e2 : DM.lookup p with
    | some y =>
      have hl2 := look_some e2
      rw [e2] at ret
      refine wpAny_call ?_
      k_dflt ktr_enter
      k_steps
      all_goals exact ret _ _ _ (by k_asm) (by k_asm) (isI_of (by walk_at "mine fin"))
    | none =>
      have hl2 := look_none e2
      rw [e2] at ret
      refine wpAny_call ?_
      k_dflt ktr_enter
      k_steps
      all_goals exact ret _ _ _ (by k_asm) (by k_asm) (isI_of (by walk_at "mine fin"))

/-- what lets answers -/
def letsV (DK : List (Int × Str)) (DP DH DM : List (Int × Int)) (p v : Int) : Bool := match DM.lookup p with
  | some y => y == vflV DP v
  | none => match DH.lookup p with
    | none => true
    | some x => if ((DK.lookup v).getD "plain" == ("primary" : Str)) = true then (DP.lookup x).getD 0 == v else ((DK.lookup v).getD "plain" == ("community" : Str)) && x == v
theorem lets_p {k : Str} {a b : Bool} (h : (k == ("primary" : Str)) = true) : Value.bool a = .bool (if (k == ("primary" : Str)) = true then a else b) := by rw [if_pos h]
theorem lets_c {k : Str} {a c : Bool} (h : (k == ("primary" : Str)) = false) (h2 : (k == ("community" : Str)) = true) : Value.bool c = .bool (if (k == ("primary" : Str)) = true then a else (k == ("community" : Str)) && c) := by
  rw [if_neg (by rw [h]; exact Bool.false_ne_true), h2]; rfl
theorem lets_n {k : Str} {a c : Bool} (h : (k == ("primary" : Str)) = false) (h2 : (k == ("community" : Str)) = false) : Value.bool (k == ("community" : Str)) = .bool (if (k == ("primary" : Str)) = true then a else (k == ("community" : Str)) && c) := by
  rw [if_neg (by rw [h]; exact Bool.false_ne_true), h2]; rfl

theorem c_lets (cx : Cx w mean mg mb outer A₀ base h₀ L m cs s.heap news) (hd : dp + 2 ≤ 500) (hu : un + 20 ≤ 5000)
    (hp : PrivAt news P kd pd od md) (hK : DictAt w news kd (IS DK)) (hP : DictAt w news pd (II DP)) (hH : DictAt w news od (II DH)) (hM : DictAt w news md (II DM)) (p v : Int) (t t' : Tok)
    (own : ∀ x, DH.lookup p = some x → ∃ y, DP.lookup x = some y)
    (ret : Ret h₀ L m s Q news (· = .bool (letsV DK DP DH DM p v))) :
    wpAny (model PR w) (ktrTop dp un gd cn cs L a ccd cl outer) (call (.ref 159) [.ref P, .int p t, .int v t']) Q E s := by
  obtain ⟨B, F, X, N, T, hk⟩ := cx
  have hp0 := hp
  have hP0 := hP
  have hK0 := hK
  obtain ⟨dx, h1, h2, h3, h4, t1, t2, t3, t4, n, mP, mD⟩ := hp
  obtain ⟨oP, kvsP, mP', loP, dP, fP⟩ := hP
  obtain ⟨oH, kvsH, mH, loH, dH, fH⟩ := hH
  obtain ⟨oM, kvsM, mM, loM, dM, fM⟩ := hM
  unfold letsV at ret
  cases e2 : DM.lookup p with
  | some y =>
    have hl2 := look_some e2
    rw [e2] at ret
    refine wpAny_call ?_
    k_dflt ktr_enter
    k_steps
    exact ret _ _ _ (by k_asm) (by k_asm) rfl
  | none =>
    have hl2 := look_none e2
    rw [e2] at ret
    cases e : DH.lookup p with
    | some x =>
      have hl := look_some e
      rw [e] at ret
      obtain ⟨y, ey⟩ := own x e
      have hly := look_some ey
      simp only [ey] at ret
      refine wpAny_call ?_
      k_dflt ktr_enter
      k_steps
      · exact ret _ _ _ (by k_asm) (by k_asm) (lets_p (by assumption))
      · exact ret _ _ _ (by k_asm) (by k_asm) (lets_c (by assumption) (by assumption))
      · exact ret _ _ _ (by k_asm) (by k_asm) (lets_n (by assumption) (by assumption))
    | none =>
      have hl := look_none e
      rw [e] at ret
      refine wpAny_call ?_
      k_dflt ktr_enter
      k_steps
      exact ret _ _ _ (by k_asm) (by k_asm) rfl
end
end Mine
namespace Mine
theorem rowsP3_0 : True := by
  k_with_none
  k_with "mine down" => (first | exact fun _ h => h | (refine dn ?_; walk_at "mine down"))
  k_with "k_ne" => (first | with_reducible assumption | exact Ne.symm (by with_reducible assumption) | exact ltm_ne (by with_reducible assumption) (by k_mem) | exact ltm_en (by with_reducible assumption) (by k_mem) | exact Nat.ne_of_lt (by with_reducible assumption) | exact Nat.ne_of_gt (by with_reducible assumption) | exact ltm_c1 (by with_reducible assumption) (by k_mem) | exact ltm_d1 (by with_reducible assumption) (by k_mem) | exact ltm_c2 (by with_reducible assumption) (by k_mem) | exact ltm_d2 (by with_reducible assumption) (by k_mem) | exact ltm_c3 (by with_reducible assumption) (by k_mem) | exact ltm_d3 (by with_reducible assumption) (by k_mem) | exact ltm_c4 (by with_reducible assumption) (by k_mem) | exact ltm_d4 (by with_reducible assumption) (by k_mem) | exact ltm_c5 (by with_reducible assumption) (by k_mem) | exact ltm_d5 (by with_reducible assumption) (by k_mem) | (refine neN ?_; (try dsimp only); omega))
  k_with "k_all" => (first | exact ltm_all (by with_reducible assumption) (by walk_at "mine down") | exact ltm_a1 (by with_reducible assumption) (by walk_at "mine down") | exact ltm_a2 (by with_reducible assumption) (by walk_at "mine down") | exact ltm_a3 (by with_reducible assumption) (by walk_at "mine down") | exact ltm_a4 (by with_reducible assumption) (by walk_at "mine down") | exact ltm_a5 (by with_reducible assumption) (by walk_at "mine down"))
  trivial
theorem fill3 : (hd.heap_1 = hd.heap_1) ∧ (PySem.Challenge.rw_pb0538_01 = PySem.Challenge.rw_pb0538_01) := by k_fill; exact ⟨rfl, rfl⟩
theorem rowsP3_1 : True := by
  k_with "compareOp In int ref" => (k_here; k_dflt (first | refine in_hit (by k_tabat) (by assumption) ?_ | refine in_miss (by k_tabat) (by assumption) ?_))
  k_with "compareOp NotIn int ref" => (k_here; k_dflt (first | refine notin_hit (by k_tabat) (by assumption) ?_ | refine notin_miss (by k_tabat) (by assumption) ?_))
  k_with "mine cx" => exact ⟨by k_asm, by k_asm, by k_asm, by k_asm, by k_asm, by first | exact rfl | assumption⟩
  k_with "mine sub" => (first | exact fun _ h => h | exact fun _ h => List.mem_cons_of_mem _ h | exact fun _ h => List.mem_cons_of_mem _ (List.mem_cons_of_mem _ h) | (intro p9 h9; simp only [List.mem_append, List.mem_cons] at h9 ⊢; simp only [h9, true_or, or_true]; done))
  k_with "mine priv" => (first | assumption | exact PrivAt.mono (by assumption) (by walk_at "mine sub"))
  k_with "mine dict" => (first | assumption | exact DictAt.mono (by assumption) (by walk_at "mine sub"))
  k_with "mine room" => ((try simp only [depth_under_make, depth_under_kw, depth_in1, depth_deeper, depth_caller, units_in1, units_deeper, Around.mark_units, units_caller]); (try dsimp only [ktrTop]); omega)
  k_with "call ref" => (k_here; (with_reducible show wpAny _ _ (call (Value.ref 119) _) _ _ _); k_dflt (refine' c_kind_of ?zqcx ?zqd ?zqu ?zqp ?zqK _ _ ?_; (case zqcx => walk_at "mine cx"); (case zqd => walk_at "mine room"); (case zqu => walk_at "mine room"); (case zqp => walk_at "mine priv"); (case zqK => walk_at "mine dict")); intro r' h' tk' F' N' hr'; obtain ⟨t', er'⟩ := hr'; subst er'; (try dsimp only))
  k_with "call ref" => (k_here; (with_reducible show wpAny _ _ (call (Value.ref 138) _) _ _ _); k_dflt (refine' c_vfl ?zqcx ?zqd ?zqu ?zqp ?zqK _ _ ?_; (case zqcx => walk_at "mine cx"); (case zqd => walk_at "mine room"); (case zqu => walk_at "mine room"); (case zqp => walk_at "mine priv"); (case zqK => walk_at "mine dict")); intro r' h' tk' F' N' hr'; obtain ⟨t', er'⟩ := hr'; subst er'; (try dsimp only))
  k_with "mine fin" => (first | rfl | ((try dsimp only [vflV]); split <;> first | rfl | contradiction | (split <;> first | rfl | contradiction)))
  trivial
theorem putD_II {kv : List (Int × Int)} {i x : Int} (e : kv.lookup i = none) : putD (.int i) (.int x) (II kv) = II (kv ++ [(i, x)]) := by
  have h : ∀ kv : List (Int × Int), kv.lookup i = none → ((II kv).any fun p => Spec.same p.1 (.int i)) = false := by
    intro kv
    induction kv with
    | nil => intro _; rfl
    | cons p r ih =>
      obtain ⟨j, y⟩ := p
      intro e
      rw [List.lookup_cons] at e
      by_cases q : i = j
      · subst q; simp at e
      · have q' : (i == j) = false := by simp; exact q
        rw [q'] at e
        show (Spec.same (.int j) (.int i) || _) = false
        rw [same_int, decide_eq_false (fun z => q z.symm), Bool.false_or]
        exact ih e
  unfold putD
  rw [if_neg (by rw [h kv e]; exact Bool.false_ne_true)]
  unfold II
  rw [List.map_append]; rfl
theorem putD_IS {kv : List (Int × Str)} {i : Int} {x : Str} (e : kv.lookup i = none) : putD (.int i) (.str x) (IS kv) = IS (kv ++ [(i, x)]) := by
  have h : ∀ kv : List (Int × Str), kv.lookup i = none → ((IS kv).any fun p => Spec.same p.1 (.int i)) = false := by
    intro kv
    induction kv with
    | nil => intro _; rfl
    | cons p r ih =>
      obtain ⟨j, y⟩ := p
      intro e
      rw [List.lookup_cons] at e
      by_cases q : i = j
      · subst q; simp at e
      · have q' : (i == j) = false := by simp; exact q
        rw [q'] at e
        show (Spec.same (.int j) (.int i) || _) = false
        rw [same_int, decide_eq_false (fun z => q z.symm), Bool.false_or]
        exact ih e
  unfold putD
  rw [if_neg (by rw [h kv e]; exact Bool.false_ne_true)]
  unfold IS
  rw [List.map_append]; rfl
section
variable {h₀ h : Heap} {L : Addr} {q q2 q3 q4 : Addr × Obj} {news : List (Addr × Obj)}
theorem drop1 (N : News h₀ L h (q :: news)) : News h₀ L h news := fun p hp => N p (.tail _ hp)
theorem drop2 (N : News h₀ L h (q :: q2 :: news)) : News h₀ L h news := fun p hp => N p (.tail _ (.tail _ hp))
theorem drop3 (N : News h₀ L h (q :: q2 :: q3 :: news)) : News h₀ L h news := fun p hp => N p (.tail _ (.tail _ (.tail _ hp)))
theorem drop4 (N : News h₀ L h (q :: q2 :: q3 :: q4 :: news)) : News h₀ L h news := fun p hp => N p (.tail _ (.tail _ (.tail _ (.tail _ hp))))
end
theorem rowsP3_2 : True := by
  k_with "mine led" => (first | k_asm | exact drop1 (by k_asm) | exact drop2 (by k_asm) | exact drop3 (by k_asm) | exact drop4 (by k_asm))
  trivial
theorem len_II {kv : List (Int × Int)} (h : kv.length ≤ 100) : (II kv).length ≤ sizeLine := by unfold II; rw [List.length_map, sizeLine_eq]; omega
theorem len_IS {kv : List (Int × Str)} (h : kv.length ≤ 100) : (IS kv).length ≤ sizeLine := by unfold IS; rw [List.length_map, sizeLine_eq]; omega
theorem rowsP3_3 : True := by
  k_with "k_all" => assumption
  k_with "k_mem" => (first | exact List.Mem.head _ | ktr_member | (refine' List.mem_cons_of_mem _ ?_; k_mem))
  k_with "setItem ref int" => (k_here; k_dflt (refine' setItem_K PyProof.V.same_int (intKind_is _ _ _ _) ?zqv ?zqF ?zqN ?zqU ?zqd ?zqf ?_ ?zqz; (case zqF => k_asm); (case zqN => k_asm); (case zqU => k_updF); (case zqd => k_asm); (case zqf => k_asm); (case zqz => first | exact len_II (by assumption) | exact len_IS (by assumption)); (case zqv => k_flat)); intro h' o' F' N' hd' hf'; (try dsimp only at N'); (try k_sweep))
  trivial
section
variable {w : World} {mean : ExcName → Option Value} {mg mb : Str → Option Value} {dp un : Nat} {gd : Option (List Code)} {cn : Str} {cs : Scope} {a : Addr} {ccd : Value} {cl : List (Str × Addr)} {outer : List Env} {A₀ : Around} {base h₀ : Heap} {L : Addr} {m : Str → Option Value} {s : Shared} {news : List (Addr × Obj)} {Q E : Value → Shared → Prop}
  {P kd pd od md : Addr} {DK : List (Int × Str)} {DP DH DM : List (Int × Int)}


theorem c_kind_is (cx : Cx w mean mg mb outer A₀ base h₀ L m cs s.heap news) (hd : dp + 1 ≤ 500) (hu : un + 10 ≤ 5000)
    (hp : PrivAt news P kd pd od md) (hK : DictAt w news kd (IS DK)) (v : Int) (t : Tok) (x : Str) (e : (DK.lookup v).getD "plain" = x)
    (ret : Ret h₀ L m s Q news (IsS x)) :
    wpAny (model PR w) (ktrTop dp un gd cn cs L a ccd cl outer) (call (.ref 119) [.ref P, .int v t]) Q E s := c_kind_of cx hd hu hp hK v t (by rw [e]; exact ret)
theorem c_vfl_is (cx : Cx w mean mg mb outer A₀ base h₀ L m cs s.heap news) (hd : dp + 1 ≤ 500) (hu : un + 10 ≤ 5000)
    (hp : PrivAt news P kd pd od md) (hP : DictAt w news pd (II DP)) (v : Int) (t : Tok) (x : Int) (e : vflV DP v = x)
    (ret : Ret h₀ L m s Q news (IsI x)) :
    wpAny (model PR w) (ktrTop dp un gd cn cs L a ccd cl outer) (call (.ref 138) [.ref P, .int v t]) Q E s := c_vfl cx hd hu hp hP v t (by rw [show (DP.lookup v).getD v = x from e]; exact ret)
theorem rowsP3_4 : True := by
  k_with "call ref" => (k_here; (with_reducible show wpAny _ _ (call (Value.ref 119) _) _ _ _); k_dflt (refine' c_kind_is ?zqcx ?zqd ?zqu ?zqp ?zqK _ _ _ ?zqe ?_; (case zqcx => walk_at "mine cx"); (case zqd => walk_at "mine room"); (case zqu => walk_at "mine room"); (case zqp => walk_at "mine priv"); (case zqK => walk_at "mine dict"); (case zqe => assumption)); intro r' h' tk' F' N' hr'; obtain ⟨t', er'⟩ := hr'; subst er'; (try dsimp only))
  k_with "call ref" => (k_here; (with_reducible show wpAny _ _ (call (Value.ref 91) _) _ _ _); k_dflt (refine' c_need_plain ?zqcx ?zqd ?zqu ?zqp ?zqK _ _ ?zqe ?_; (case zqcx => walk_at "mine cx"); (case zqd => walk_at "mine room"); (case zqu => walk_at "mine room"); (case zqp => walk_at "mine priv"); (case zqK => walk_at "mine dict"); (case zqe => assumption)); intro r' h' tk' F' N' hr'; subst hr'; (try dsimp only))
  k_with "call ref" => (k_here; (with_reducible show wpAny _ _ (call (Value.ref 112) _) _ _ _); k_dflt (refine' c_need_free ?zqcx ?zqd ?zqu ?zqp ?zqH ?zqM _ _ ?zqe ?zqe2 ?_; (case zqcx => walk_at "mine cx"); (case zqd => walk_at "mine room"); (case zqu => walk_at "mine room"); (case zqp => walk_at "mine priv"); (case zqH => walk_at "mine dict"); (case zqM => walk_at "mine dict"); (case zqe => assumption); (case zqe2 => assumption)); intro r' h' tk' F' N' hr'; subst hr'; (try dsimp only))
  trivial
theorem c_set_host {rest : List (Addr × Obj)} {oH : Obj} {kvsH : List (Int × Value)} (cx : Cx w mean mg mb outer A₀ base h₀ L m cs s.heap ((od, oH) :: rest)) (hd : dp + 2 ≤ 500) (hu : un + 20 ≤ 5000)
    (hp : PrivAt rest P kd pd od md) (hK : DictAt w rest kd (IS DK)) (hM : DictAt w rest md (II DM)) (ne : ∀ q ∈ rest, q.1 ≠ od) (lo : (od == sysModules) = false)
    (dH : oH.IsDictOf (intKind PR w) kvsH) (fH : FlatPairs PyData.int kvsH (II DH)) (hz : DH.length ≤ 100) (p v : Int) (t t' : Tok) (e1 : DH.lookup p = none) (e2 : DM.lookup p = none)
    (ek : (DK.lookup v).getD "plain" = "isolated" ∨ (DK.lookup v).getD "plain" = "community")
    (ret : ∀ h' tk' o' kvs', Fr h₀ L h' m → News h₀ L h' ((od, o') :: rest) → o'.IsDictOf (intKind PR w) kvs' → FlatPairs PyData.int kvs' (II (DH ++ [(p, v)])) → Q .none { s with heap := h', toks := tk' }) :
    wpAny (model PR w) (ktrTop dp un gd cn cs L a ccd cl outer) (call (.ref 98) [.ref P, .int p t, .int v t']) Q E s := by
  obtain ⟨B, F, X, N, T, hk⟩ := cx
  have hp1 := hp.mono (news' := (od, oH) :: rest) fun _ h => List.mem_cons_of_mem _ h
  have hK1 := hK.mono (news' := (od, oH) :: rest) fun _ h => List.mem_cons_of_mem _ h
  have hM1 := hM.mono (news' := (od, oH) :: rest) fun _ h => List.mem_cons_of_mem _ h
  have hH1 : DictAt w ((od, oH) :: rest) od (II DH) := ⟨oH, kvsH, .head _, lo, dH, fH⟩
  obtain ⟨dx, h1, h2, h3, h4, t1, t2, t3, t4, n, mP, mD⟩ := hp
  have ep := putD_II (x := v) e1
  rcases ek with ek | ek
  all_goals (
    refine wpAny_call ?_
    k_dflt ktr_enter
    k_steps
    exact ret _ _ _ _ (by k_asm) (by walk_at "mine led") (by assumption) (by rw [← ep]; assumption))

theorem c_set_prom {rest : List (Addr × Obj)} {oM : Obj} {kvsM : List (Int × Value)} (cx : Cx w mean mg mb outer A₀ base h₀ L m cs s.heap ((md, oM) :: rest)) (hd : dp + 2 ≤ 500) (hu : un + 20 ≤ 5000)
    (hp : PrivAt rest P kd pd od md) (hK : DictAt w rest kd (IS DK)) (hH : DictAt w rest od (II DH)) (ne : ∀ q ∈ rest, q.1 ≠ md) (lo : (md == sysModules) = false)
    (dM : oM.IsDictOf (intKind PR w) kvsM) (fM : FlatPairs PyData.int kvsM (II DM)) (hz : DM.length ≤ 100) (p v : Int) (t t' : Tok) (e1 : DH.lookup p = none) (e2 : DM.lookup p = none)
    (ek : (DK.lookup v).getD "plain" = "primary")
    (ret : ∀ h' tk' o' kvs', Fr h₀ L h' m → News h₀ L h' ((md, o') :: rest) → o'.IsDictOf (intKind PR w) kvs' → FlatPairs PyData.int kvs' (II (DM ++ [(p, v)])) → Q .none { s with heap := h', toks := tk' }) :
    wpAny (model PR w) (ktrTop dp un gd cn cs L a ccd cl outer) (call (.ref 105) [.ref P, .int p t, .int v t']) Q E s := by
  obtain ⟨B, F, X, N, T, hk⟩ := cx
  have hp1 := hp.mono (news' := (md, oM) :: rest) fun _ h => List.mem_cons_of_mem _ h
  have hK1 := hK.mono (news' := (md, oM) :: rest) fun _ h => List.mem_cons_of_mem _ h
  have hH1 := hH.mono (news' := (md, oM) :: rest) fun _ h => List.mem_cons_of_mem _ h
  have hM1 : DictAt w ((md, oM) :: rest) md (II DM) := ⟨oM, kvsM, .head _, lo, dM, fM⟩
  obtain ⟨dx, h1, h2, h3, h4, t1, t2, t3, t4, n, mP, mD⟩ := hp
  have ep := putD_II (x := v) e2
  refine wpAny_call ?_
  k_dflt ktr_enter
  k_steps
  exact ret _ _ _ _ (by k_asm) (by walk_at "mine led") (by assumption) (by rw [← ep]; assumption)

theorem c_add_primary {rest : List (Addr × Obj)} {oK oP : Obj} {kvsK kvsP : List (Int × Value)} (cx : Cx w mean mg mb outer A₀ base h₀ L m cs s.heap ((kd, oK) :: (pd, oP) :: rest)) (hd : dp + 2 ≤ 500) (hu : un + 20 ≤ 5000)
    (hp : PrivAt rest P kd pd od md) (nkp : @Ne Nat kd pd) (npk : @Ne Nat pd kd) (nek : ∀ q ∈ rest, q.1 ≠ kd) (nep : ∀ q ∈ rest, q.1 ≠ pd) (loK : (kd == sysModules) = false) (loP : (pd == sysModules) = false)
    (dK : oK.IsDictOf (intKind PR w) kvsK) (fK : FlatPairs PyData.int kvsK (IS DK)) (hz : DK.length ≤ 100) (dP : oP.IsDictOf (intKind PR w) kvsP) (fP : FlatPairs PyData.int kvsP (II DP)) (hz2 : DP.length ≤ 100)
    (v : Int) (t : Tok) (e1 : DK.lookup v = none) (e2 : DP.lookup v = none)
    (ret : ∀ h' tk' oK' kvsK' oP' kvsP', Fr h₀ L h' m → News h₀ L h' ((kd, oK') :: (pd, oP') :: rest) → oK'.IsDictOf (intKind PR w) kvsK' → FlatPairs PyData.int kvsK' (IS (DK ++ [(v, ("primary" : Str))])) →
      oP'.IsDictOf (intKind PR w) kvsP' → FlatPairs PyData.int kvsP' (II (DP ++ [(v, v)])) → Q .none { s with heap := h', toks := tk' }) :
    wpAny (model PR w) (ktrTop dp un gd cn cs L a ccd cl outer) (call (.ref 79) [.ref P, .int v t]) Q E s := by
  obtain ⟨B, F, X, N, T, hk⟩ := cx
  have hp1 := hp.mono (news' := (kd, oK) :: (pd, oP) :: rest) fun _ h => List.mem_cons_of_mem _ (List.mem_cons_of_mem _ h)
  have hK1 : DictAt w ((kd, oK) :: (pd, oP) :: rest) kd (IS DK) := ⟨oK, kvsK, .head _, loK, dK, fK⟩
  obtain ⟨dx, h1, h2, h3, h4, t1, t2, t3, t4, n, mP, mD⟩ := hp
  have ep := putD_IS (x := ("primary" : Str)) e1
  have ep2 := putD_II (x := v) e2
  have hapK : ∀ q ∈ (pd, oP) :: rest, q.1 ≠ kd := List.forall_mem_cons.mpr ⟨npk, nek⟩
  refine wpAny_call ?_
  k_dflt ktr_enter
  k_steps
  exact ret _ _ _ _ _ _ (by k_asm) (by walk_at "mine led") (by assumption) (by rw [← ep]; assumption) (by assumption) (by rw [← ep2]; assumption)
end
end Mine
namespace Mine
theorem rowsP4_0 : True := by
  k_with_none
  k_with "mine down" => (first | exact fun _ h => h | (refine dn ?_; walk_at "mine down"))
  k_with "k_ne" => (first | with_reducible assumption | exact Ne.symm (by with_reducible assumption) | exact ltm_ne (by with_reducible assumption) (by k_mem) | exact ltm_en (by with_reducible assumption) (by k_mem) | exact Nat.ne_of_lt (by with_reducible assumption) | exact Nat.ne_of_gt (by with_reducible assumption) | exact ltm_c1 (by with_reducible assumption) (by k_mem) | exact ltm_d1 (by with_reducible assumption) (by k_mem) | exact ltm_c2 (by with_reducible assumption) (by k_mem) | exact ltm_d2 (by with_reducible assumption) (by k_mem) | exact ltm_c3 (by with_reducible assumption) (by k_mem) | exact ltm_d3 (by with_reducible assumption) (by k_mem) | exact ltm_c4 (by with_reducible assumption) (by k_mem) | exact ltm_d4 (by with_reducible assumption) (by k_mem) | exact ltm_c5 (by with_reducible assumption) (by k_mem) | exact ltm_d5 (by with_reducible assumption) (by k_mem) | (refine neN ?_; (try dsimp only); omega))
  k_with "k_all" => (first | exact ltm_all (by with_reducible assumption) (by walk_at "mine down") | exact ltm_a1 (by with_reducible assumption) (by walk_at "mine down") | exact ltm_a2 (by with_reducible assumption) (by walk_at "mine down") | exact ltm_a3 (by with_reducible assumption) (by walk_at "mine down") | exact ltm_a4 (by with_reducible assumption) (by walk_at "mine down") | exact ltm_a5 (by with_reducible assumption) (by walk_at "mine down"))
  trivial
theorem fill4 : (hd.heap_1 = hd.heap_1) ∧ (PySem.Challenge.rw_pb0538_01 = PySem.Challenge.rw_pb0538_01) := by k_fill; exact ⟨rfl, rfl⟩
theorem rowsP4_1 : True := by
  k_with "compareOp In int ref" => (k_here; k_dflt (first | refine in_hit (by k_tabat) (by assumption) ?_ | refine in_miss (by k_tabat) (by assumption) ?_))
  k_with "compareOp NotIn int ref" => (k_here; k_dflt (first | refine notin_hit (by k_tabat) (by assumption) ?_ | refine notin_miss (by k_tabat) (by assumption) ?_))
  k_with "mine cx" => exact ⟨by k_asm, by k_asm, by k_asm, by k_asm, by k_asm, by first | exact rfl | assumption⟩
  trivial
theorem sub_keep {q : Addr × Obj} {a b : List (Addr × Obj)} (h : ∀ p ∈ b, p ∈ a) : ∀ p ∈ q :: b, p ∈ q :: a := fun p hp => by
  rcases List.mem_cons.mp hp with rfl | hp
  · exact .head _
  · exact .tail _ (h p hp)
theorem sub_skip {q : Addr × Obj} {a b : List (Addr × Obj)} (h : ∀ p ∈ b, p ∈ a) : ∀ p ∈ b, p ∈ q :: a := fun p hp => .tail _ (h p hp)
theorem newsSub {h₀ h : Heap} {L : Addr} {a b : List (Addr × Obj)} (N : News h₀ L h a) (x : ∀ p ∈ b, p ∈ a) : News h₀ L h b := fun p hp => N p (x p hp)
theorem off1_mem {D : Addr} {l : List (Addr × Obj)} (x : LCg.Off1 D l) : ∀ p ∈ l, @Ne Nat p.1 D := by
  induction l with
  | nil => intro p h; exact absurd h List.not_mem_nil
  | cons q r ih =>
    intro p h
    rcases List.mem_cons.mp h with e | h
    · rw [e]; exact x.1
    · exact ih x.2 p h
theorem rowsP4_2 : True := by
  k_with "mine sub" => (first | exact fun _ h => h | exact sub_skip (fun _ h => h) | exact sub_skip (sub_skip (fun _ h => h)) | exact sub_skip (sub_skip (sub_skip (fun _ h => h))) | exact sub_skip (sub_skip (sub_skip (sub_skip (fun _ h => h)))) | exact sub_skip (sub_skip (sub_skip (sub_skip (sub_skip (fun _ h => h))))) | exact sub_skip (sub_skip (sub_skip (sub_skip (sub_skip (sub_skip (fun _ h => h)))))) | exact sub_keep (sub_skip (fun _ h => h)) | exact sub_keep (sub_skip (sub_skip (fun _ h => h))) | exact sub_keep (sub_skip (sub_skip (sub_skip (fun _ h => h)))) | exact sub_keep (sub_skip (sub_skip (sub_skip (sub_skip (fun _ h => h))))) | exact sub_keep (sub_skip (sub_skip (sub_skip (sub_skip (sub_skip (fun _ h => h)))))) | exact sub_keep (sub_skip (sub_skip (sub_skip (sub_skip (sub_skip (sub_skip (fun _ h => h))))))))
  k_with "mine priv" => (first | assumption | exact PrivAt.mono (by assumption) (by walk_at "mine sub"))
  k_with "mine dict" => (first | assumption | exact DictAt.mono (by assumption) (by walk_at "mine sub"))
  k_with "mine room" => ((try simp only [depth_under_make, depth_under_kw, depth_in1, depth_deeper, depth_caller, units_in1, units_deeper, Around.mark_units, units_caller]); (try dsimp only [ktrTop]); omega)
  k_with "call ref" => (k_here; (with_reducible show wpAny _ _ (call (Value.ref 119) _) _ _ _); k_dflt (refine' c_kind_of ?zqcx ?zqd ?zqu ?zqp ?zqK _ _ ?_; (case zqcx => walk_at "mine cx"); (case zqd => walk_at "mine room"); (case zqu => walk_at "mine room"); (case zqp => walk_at "mine priv"); (case zqK => walk_at "mine dict")); intro r' h' tk' F' N' hr'; obtain ⟨t', er'⟩ := hr'; subst er'; (try dsimp only))
  k_with "call ref" => (k_here; (with_reducible show wpAny _ _ (call (Value.ref 138) _) _ _ _); k_dflt (refine' c_vfl ?zqcx ?zqd ?zqu ?zqp ?zqK _ _ ?_; (case zqcx => walk_at "mine cx"); (case zqd => walk_at "mine room"); (case zqu => walk_at "mine room"); (case zqp => walk_at "mine priv"); (case zqK => walk_at "mine dict")); intro r' h' tk' F' N' hr'; obtain ⟨t', er'⟩ := hr'; subst er'; (try dsimp only))
  k_with "mine fin" => (first | rfl | ((try dsimp only [vflV]); split <;> first | rfl | contradiction | (split <;> first | rfl | contradiction)))
  k_with "mine led" => (first | k_asm | exact drop1 (by k_asm) | exact drop2 (by k_asm) | exact drop3 (by k_asm) | exact drop4 (by k_asm))
  k_with "mine enterC" => (refine' code_defC ?zqk1 ?zqk2 ?zqk3 ?zqk4 ?zqk5 ?zqkA ?zqkF ?zqkK ?zqk6 ?zqk7 ?zqk8 ?zqk9 ?zqkB ?zqkD ?_ ?zqc2 ?zqc3 ?zqc4; (case zqkA => exact rfl); (case zqkF => exact rfl); (case zqkK => assumption); (case zqk1 => k_asm); (case zqk2 => k_asm); (case zqk3 => k_asm); (case zqk4 => k_asm); (case zqk5 => k_asm); (case zqk6 => k_is); (case zqk7 => k_is); (case zqk8 => ktr_room); (case zqk9 => exact BindsTo.of_eq rfl); (case zqkB => exact rfl); (case zqkD => decide +kernel); (case zqc2 => exact rfl); (case zqc3 => exact rfl); (case zqc4 => exact rfl); k_whole; intro g' L' h' tk' cells' FG' F' N' Y' B' X' T' l1; (try k_lt l1); k_cells Y'; (try simp only [List.cons_append, List.nil_append] at N'); (try dsimp only); (try k_fold))
  k_with "eval ListComp" => (k_here; lct_look; lcg_calm; k_dflt (refine LCt.ListComp_T (F₀ := by k_asm) (by with_unfolding_all rfl) (by decide) (by rfl) (by decide) (by rfl) ?_))
  k_with "k_all" => assumption
  k_with "k_mem" => (first | exact List.Mem.head _ | ktr_member | (refine' List.mem_cons_of_mem _ ?_; k_mem))
  k_with "setItem ref int" => (k_here; k_dflt (refine' setItem_K PyProof.V.same_int (intKind_is _ _ _ _) ?zqv ?zqF ?zqN ?zqU ?zqd ?zqf ?_ ?zqz; (case zqF => k_asm); (case zqN => k_asm); (case zqU => k_updF); (case zqd => k_asm); (case zqf => k_asm); (case zqz => first | exact len_II (by assumption) | exact len_IS (by assumption)); (case zqv => k_flat)); intro h' o' F' N' hd' hf'; (try dsimp only at N'); (try k_sweep))
  k_with "call ref" => (k_here; (with_reducible show wpAny _ _ (call (Value.ref 119) _) _ _ _); k_dflt (refine' c_kind_is ?zqcx ?zqd ?zqu ?zqp ?zqK _ _ _ ?zqe ?_; (case zqcx => walk_at "mine cx"); (case zqd => walk_at "mine room"); (case zqu => walk_at "mine room"); (case zqp => walk_at "mine priv"); (case zqK => walk_at "mine dict"); (case zqe => assumption)); intro r' h' tk' F' N' hr'; obtain ⟨t', er'⟩ := hr'; subst er'; (try dsimp only))
  k_with "call ref" => (k_here; (with_reducible show wpAny _ _ (call (Value.ref 91) _) _ _ _); k_dflt (refine' c_need_plain ?zqcx ?zqd ?zqu ?zqp ?zqK _ _ ?zqe ?_; (case zqcx => walk_at "mine cx"); (case zqd => walk_at "mine room"); (case zqu => walk_at "mine room"); (case zqp => walk_at "mine priv"); (case zqK => walk_at "mine dict"); (case zqe => assumption)); intro r' h' tk' F' N' hr'; subst hr'; (try dsimp only))
  k_with "call ref" => (k_here; (with_reducible show wpAny _ _ (call (Value.ref 112) _) _ _ _); k_dflt (refine' c_need_free ?zqcx ?zqd ?zqu ?zqp ?zqH ?zqM _ _ ?zqe ?zqe2 ?_; (case zqcx => walk_at "mine cx"); (case zqd => walk_at "mine room"); (case zqu => walk_at "mine room"); (case zqp => walk_at "mine priv"); (case zqH => walk_at "mine dict"); (case zqM => walk_at "mine dict"); (case zqe => assumption); (case zqe2 => assumption)); intro r' h' tk' F' N' hr'; subst hr'; (try dsimp only))
  trivial
/-- an insertion sort that reduces -/
def ins (x : Int) : List Int → List Int
  | [] => [x]
  | y :: r => if x ≤ y then x :: y :: r else y :: ins x r
def isort : List Int → List Int
  | [] => []
  | x :: r => ins x (isort r)
theorem ins_perm (x : Int) : ∀ l, (ins x l).Perm (x :: l)
  | [] => .refl _
  | y :: r => by
    unfold ins
    split
    · exact .refl _
    · exact ((ins_perm x r).cons y).trans (.swap x y r)
theorem isort_perm : ∀ l, (isort l).Perm l
  | [] => .refl _
  | x :: r => (ins_perm x _).trans ((isort_perm r).cons x)
theorem ins_ord (x : Int) : ∀ l : List Int, l.Pairwise (· ≤ ·) → (ins x l).Pairwise (· ≤ ·)
  | [], _ => List.pairwise_singleton _ _
  | y :: r, h => by
    unfold ins
    have h' := List.pairwise_cons.mp h
    split
    · rename_i q
      refine List.pairwise_cons.mpr ⟨fun z hz => ?_, h⟩
      rcases List.mem_cons.mp hz with rfl | hz
      · exact q
      · exact Int.le_trans q (h'.1 z hz)
    · rename_i q
      refine List.pairwise_cons.mpr ⟨fun z hz => ?_, ins_ord x r h'.2⟩
      rcases List.mem_cons.mp ((ins_perm x r).mem_iff.mp hz) with rfl | hz
      · omega
      · exact h'.1 z hz
theorem isort_ord : ∀ l, (isort l).Pairwise (· ≤ ·)
  | [] => .nil
  | x :: r => ins_ord x _ (isort_ord r)
theorem isort_of {a b : List Int} (p : a.Perm b) (o : a.Pairwise (· ≤ ·)) : a = isort b :=
  List.Perm.eq_of_pairwise (fun x y _ _ h1 h2 => Int.le_antisymm h1 h2) o (isort_ord b) (p.trans (isort_perm b).symm)

theorem ints_at : ∀ {vs : List Value} {ns : List Int}, IntsAre vs ns → ∀ {i : Nat} {v : Value}, vs[i]? = some v → ∃ n t, ns[i]? = some n ∧ v = .int n t
  | _, _, .nil, i, v, h => by simp at h
  | _, _, .cons n t r, 0, v, h => by
    refine ⟨n, t, rfl, ?_⟩
    exact (Option.some.inj h).symm
  | _, _, .cons n t r, i + 1, v, h => ints_at r (i := i) h
theorem ints_snoc {n : Int} {t : Tok} {vs : List Value} {ns : List Int} (h : IntsAre vs ns) : IntsAre (vs ++ [.int n t]) (ns ++ [n]) := intsAre_append h (.cons n t .nil)

section
variable {w : World} {A : Around} {h₀ : Heap} {L : Addr} {m : Str → Option Value} {s : Shared} {news : List (Addr × Obj)} {Q E : Value → Shared → Prop}
theorem sortD {d : Addr} {DK : List (Int × Str)} (hh : A.handled = none) (F : Fr h₀ L s.heap m) (N : News h₀ L s.heap news) (Ta : TabAt (intKind PR w) PyData.int s.heap d (IS DK)) (hn : DK.length < 64)
    (h : ∀ B h' tk vs k, Fr h₀ L h' m → News h₀ L h' ((B, listOf vs.toArray k) :: news) → (∀ q ∈ news, q.1 < B) → IntsAre vs (isort (DK.map Prod.fst)) → Q (.ref B) { s with heap := h', toks := tk }) :
    wpAny (model PR w) A (call (.builtin "sorted") [.ref d]) Q E s := by
  obtain ⟨lo, kvs, hD, hf⟩ := Ta
  obtain ⟨ep, hat⟩ := hD.dictAt
  have hlen : kvs.length = DK.length := by rw [← hf.length, IS, List.length_map]
  refine kdu_sorted (kdl_dict (knd := intKind PR w) (kvs := kvs) (ep := ep) lo) hh F N hat (kdl_size (by omega)) fun B h' tk vs F' N' l1 hl hv => ?_
  have hi : IntsAre vs (DK.map Prod.fst) := kdy_ints (by rw [hl, List.length_map, hlen]) fun j u hu => by
    obtain ⟨k, x, hx, hk⟩ := hv j u hu
    obtain ⟨dv, hd, _⟩ := hf.at hx
    rw [IS, List.getElem?_map] at hd
    cases e : DK[j]? with
    | none => rw [e] at hd; cases hd
    | some q =>
      rw [e] at hd
      have hk' : k = q.1 := by
        have := (Prod.mk.inj (Option.some.inj hd)).1
        exact (PyData.int.inj this).symm
      obtain ⟨t, rfl⟩ := Value.isInt_shape hk
      exact ⟨k, by rw [List.getElem?_map, e, hk']; rfl, t, rfl⟩
  refine ksk_lsort (D := B) (its := vs.toArray) (n := 0) (vs := vs) (ns := DK.map Prod.fst) (news' := fun o => (B, o) :: news) F' N' (fun o => .head (fun q hq => Nat.ne_of_lt (l1 q hq))) rfl hi (by rw [List.length_map]; exact hn) fun vs' ns' c h'' F'' N'' hi' _ hp ho _ => ?_
  exact h B h'' _ vs' c F'' N'' l1 (by rw [← isort_of hp ho]; exact hi')
theorem sortL {l : Addr} {vs : List Value} {ns : List Int} {c : Nat} (F : Fr h₀ L s.heap m) (N : News h₀ L s.heap news) (hm : (l, listOf vs.toArray c) ∈ news) (hi : IntsAre vs ns) (h64 : ns.length < 64)
    (h : ∀ B h' tk vs k, Fr h₀ L h' m → News h₀ L h' ((B, listOf (List.toArray vs) k) :: news) → (∀ q ∈ news, q.1 < B) → IntsAre vs (isort ns) → Q (.ref B) { s with heap := h', toks := tk }) :
    wpAny (model PR w) A (call (.builtin "sorted") [.ref l]) Q E s :=
  kso_sorted F N ⟨_, (N _ hm).1, rfl, c, rfl⟩ hi h64 fun D vs' ns' c h' F' N' l1 hi' _ p o _ => h D h' _ vs' c F' N' l1 (by rw [← isort_of p o]; exact hi')
end
section
variable {prog : Program} {w : World} {A : Around} {E : Value → Shared → Prop} {s : Shared} {h₀ : Heap} {L : Addr} {m : Str → Option Value} {env : Env}
open LCt LCg in
theorem restT_all {ct elt : Expr} {x : Str} {scope : Scope} {cl : List (Str × Addr)} {S : List (Addr × Obj) → Prop} {P : Nat → Value → Prop} {Fin : List Value → List (Addr × Obj) → Prop} {news : List (Addr × Obj)} (n : Nat) (J : Nat → List Value → Prop)
    (h0 : ∀ ys, J n ys → Fin ys news)
    (hs : ∀ i ys v, i < n → J i ys → P i v → ∀ I oI C oC D m₂ h tk (E' : Value → Shared → Prop), NsObj oC m₂ → m₂ x = some v → Fr h₀ L h m → News h₀ L h ((I, oI) :: (C, oC) :: (D, lst ys) :: news) → Off3 I C D news → ((@Ne Nat I C) ∧ (@Ne Nat I D) ∧ (@Ne Nat C D)) →
      wpAny (model prog w) A (isTrue ct (compEnvC scope cl C env) (eval ct (compEnvC scope cl C env))) (fun ok s' => if ok = true then
        wpAny (model prog w) A (eval elt (compEnvC scope cl C env)) (CompEnd h₀ L m { s with heap := h, toks := tk } I oI C oC D (lst ys) S (fun y news' => news' = news ∧ J (i + 1) (ys ++ [y]))) E' s'
        else CompEnd h₀ L m { s with heap := h, toks := tk } I oI C oC D (lst ys) S (fun _ news' => news' = news ∧ J (i + 1) ys) Value.none s') E' { s with heap := h, toks := tk }) :
    ∀ ys, J 0 ys → CompRestT prog w A h₀ L m env ct elt x scope cl s S P Fin n 0 ys news := by
  have key : ∀ k i ys, i + k = n → J i ys → CompRestT prog w A h₀ L m env ct elt x scope cl s S P Fin k i ys news := by
    intro k
    induction k with
    | zero => intro i ys e j; exact h0 ys (by rw [← e]; exact j)
    | succ k ih =>
      intro i ys e j
      refine CompRestT.succ ?_
      intro v I oI C oC D m₂ h tk E' pv hC hx F N off ne
      refine wpAny_mono (hs i ys v (by omega) j pv I oI C oC D m₂ h tk E' hC hx F N off ne) (fun ok s' q => ?_) fun _ _ e => e
      cases ok with
      | true =>
        refine wpAny_mono q (fun y s'' r => ?_) fun _ _ e => e
        obtain ⟨h', tk', news', e', F', N', o', S', rfl, J'⟩ := r
        exact ⟨h', tk', _, e', F', N', o', S', ih (i + 1) _ (by omega) J'⟩
      | false =>
        obtain ⟨h', tk', news', e', F', N', o', S', rfl, J'⟩ := q
        exact ⟨h', tk', _, e', F', N', o', S', ih (i + 1) _ (by omega) J'⟩
  exact fun ys j => key n 0 ys (Nat.zero_add n) j
end

theorem lt_ne {D : Addr} {l : List (Addr × Obj)} (x : ∀ p ∈ l, p.1 < D) : ∀ p ∈ l, @Ne Nat p.1 D := fun p h => Nat.ne_of_lt (x p h)
theorem rowsP4_3 : True := by
  k_with "call builtin:sorted" => (k_here; (with_reducible show wpAny _ _ (call (Value.builtin "sorted") [Value.ref _]) _ _ _); k_dflt (refine sortD (by rfl) (by k_asm) (by k_asm) (by k_tabat) (by omega) ?_); intro D' h' tk' vs' k' F' N' l1 hi'; (try k_lt l1))
  k_with "CompRestT" => (with_unfolding_all fail)
  k_with "CompEnd" => (k_here; refine LCg.CompEnd.intro (by k_asm) (by k_asm) _ (by walk_at "mine sub") (by assumption) (by lcg_src) ?_)
  trivial
section
variable {w : World} {mean : ExcName → Option Value} {mg mb : Str → Option Value} {dp un : Nat} {gd : Option (List Code)} {cn : Str} {cs : Scope} {a : Addr} {ccd : Value} {cl : List (Str × Addr)} {outer : List Env} {A₀ : Around} {base h₀ : Heap} {L : Addr} {m : Str → Option Value} {s : Shared} {news : List (Addr × Obj)} {Q E : Value → Shared → Prop}
  {P kd pd od md : Addr} {DK : List (Int × Str)} {DP DH DM : List (Int × Int)}



def secF (DK : List (Int × Str)) (DP : List (Int × Int)) (p : Int) : List Int := (isort (DK.map Prod.fst)).filter fun v => DP.lookup v == some p && !(v == p)

theorem filt_yes {f : Int → Bool} {ns : List Int} {i : Nat} {v : Int} {t : Tok} {ys : List Value} (e : ns.take (i + 1) = ns.take i ++ [v]) (hf : f v = true) (hys : IntsAre ys ((ns.take i).filter f)) : IntsAre (ys ++ [.int v t]) ((ns.take (i + 1)).filter f) := by
  rw [e, List.filter_append, List.filter_cons_of_pos hf]; exact ints_snoc hys
theorem filt_no {f : Int → Bool} {ns : List Int} {i : Nat} {v : Int} {ys : List Value} (e : ns.take (i + 1) = ns.take i ++ [v]) (hf : ¬ f v = true) (hys : IntsAre ys ((ns.take i).filter f)) : IntsAre ys ((ns.take (i + 1)).filter f) := by
  rw [e, List.filter_append, List.filter_cons_of_neg hf, List.filter_nil, List.append_nil]; exact hys
theorem allLt_ne {D : Addr} {l : List (Addr × Obj)} (x : AllLt D l) : ∀ p ∈ l, @Ne Nat p.1 D := by
  induction l with
  | nil => intro p h; exact absurd h List.not_mem_nil
  | cons q r ih =>
    intro p h
    rcases List.mem_cons.mp h with e | h
    · rw [e]; exact Nat.ne_of_lt x.1
    · exact ih x.2 p h
theorem rowsP4_4 : True := by
  k_with "mine fresh" => (first | assumption | exact ltm_all (by with_reducible assumption) (by walk_at "mine down") | exact lt_ne (by assumption) | exact allLt_ne (by k_asm) | exact off1_mem (by k_asm) | (rename _ ∧ _ => o9; first | exact off1_mem o9.2 | exact off1_mem o9.2.2 | exact off1_mem o9.2.2.2 | exact allLt_ne o9.2 | exact allLt_ne o9.2.2 | exact allLt_ne o9.2.2.2))
  trivial
theorem sec_in {DP : List (Int × Int)} {p v y : Int} (hy : DP.lookup v = some y) (e : y = p) (n : v ≠ p) : (DP.lookup v == some p && !(v == p)) = true := by rw [hy, e]; simp [n]
theorem sec_out1 {DP : List (Int × Int)} {p v y : Int} (hy : DP.lookup v = some y) (e : y ≠ p) : ¬ (DP.lookup v == some p && !(v == p)) = true := by rw [hy]; simp [e]
theorem sec_out2 {DP : List (Int × Int)} {p v : Int} (e : v = p) : ¬ (DP.lookup v == some p && !(v == p)) = true := by simp [e]
theorem c_secondaries (cx : Cx w mean mg mb outer A₀ base h₀ L m cs s.heap news) (hd : dp + 1 ≤ 500) (hu : un + 10 ≤ 5000)
    (hp : PrivAt news P kd pd od md) (hK : DictAt w news kd (IS DK)) (hP : DictAt w news pd (II DP)) (hz : DK.length < 63) (own : ∀ x ∈ DK.map Prod.fst, ∃ y, DP.lookup x = some y) (p : Int) (t : Tok)
    (ret : ∀ D h' tk' ys k, Fr h₀ L h' m → News h₀ L h' ((D, listOf (List.toArray ys) k) :: news) → (∀ q ∈ news, @Ne Nat q.1 D) → IntsAre ys (secF DK DP p) → Q (.ref D) { s with heap := h', toks := tk' }) :
    wpAny (model PR w) (ktrTop dp un gd cn cs L a ccd cl outer) (call (.ref 124) [.ref P, .int p t]) Q E s := by
  obtain ⟨B, F, X, N, T, hk⟩ := cx
  obtain ⟨dx, h1, h2, h3, h4, t1, t2, t3, t4, n, mP, mD⟩ := hp
  obtain ⟨oK, kvsK, mK, loK, dK, fK⟩ := hK
  obtain ⟨oP, kvsP, mP', loP, dP, fP⟩ := hP
  refine wpAny_call ?_
  k_dflt (walk_at "mine enterC")
  k_steps
  rename IntsAre _ _ => hI
  have hsz := hI.length
  have hlen : (isort (DK.map Prod.fst)).length < 64 := by rw [(isort_perm _).length_eq, List.length_map]; omega
  k_dflt (refine LCt.CompSrcT.ledger (by rfl) (by k_asm) (by k_asm) (by k_mem) (by rw [List.size_toArray, sizeLine_eq]; omega) ?_)
  intro g9
  refine restT_all _ (fun i ys => IntsAre ys (((isort (DK.map Prod.fst)).take i).filter fun v => DP.lookup v == some p && !(v == p))) ?_ ?_ [] .nil
  · intro ys hys
    rw [List.size_toArray, hsz, List.take_length] at hys
    k_steps
    rename _ ∧ _ => o9
    exact ret _ _ _ _ _ (by k_asm) (newsSub (by k_asm) (by walk_at "mine sub")) (off1_mem o9.2.2.2) hys
  · intro i ys v hi hys pv I' oI' C' oC' D' m' h' tk' E' hC' hx' F' N' off' ne'
    obtain ⟨v, t, hv, rfl⟩ := ints_at hI (by simpa using pv)
    have hmem : v ∈ DK.map Prod.fst := (isort_perm _).mem_iff.mp (List.mem_of_getElem? hv)
    obtain ⟨y, hy⟩ := own v hmem
    have hly := look_some hy
    have htk : (isort (DK.map Prod.fst)).take (i + 1) = (isort (DK.map Prod.fst)).take i ++ [v] := by rw [List.take_add_one, hv]; rfl
    k_steps
    · exact filt_yes htk (sec_in hy (by assumption) (by assumption)) hys
    · exact filt_no htk (sec_out2 (by assumption)) hys
    · exact filt_no htk (sec_out1 hy (by assumption)) hys
theorem rowsP4_5 : True := by
  k_with "binaryOp Add ref ref" => (k_here; (with_reducible show wpAny _ _ (binaryOp _ (Value.ref _) (Value.ref _)) _ _ _); k_dflt (refine' kmk_add_ints ?zqF ?zqN ?zqa ?zqb ?zqi ?zqj ?_ ?zqz; (case zqF => k_asm); (case zqN => k_asm); (case zqa => kmk_list); (case zqb => exact ⟨_, (News.get (by k_asm) (by k_mem)), rfl, _, rfl⟩); (case zqi => l_ints); (case zqj => assumption); (case zqz => assumption)); intro D' ws' h' F' N' l1 hI'; (try k_lt l1))
  k_with "call builtin:sorted" => (k_here; (with_reducible show wpAny _ _ (call (Value.builtin "sorted") [Value.ref _]) _ _ _); k_dflt (refine sortL (by k_asm) (by k_asm) (by k_mem) (by assumption) (by assumption) ?_); intro D' h' tk' vs' k' F' N' l1 hi'; (try k_lt l1))
  k_with "call ref" => (k_here; (with_reducible show wpAny _ _ (call (Value.ref 124) _) _ _ _); k_dflt (refine' c_secondaries ?zqcx ?zqd ?zqu ?zqp ?zqK ?zqP ?zqz ?zqown _ _ ?_; (case zqcx => walk_at "mine cx"); (case zqd => walk_at "mine room"); (case zqu => walk_at "mine room"); (case zqp => walk_at "mine priv"); (case zqK => walk_at "mine dict"); (case zqP => walk_at "mine dict"); (case zqz => assumption); (case zqown => assumption)); intro D' h' tk' ys' k' F' N' l1 hi'; (try dsimp only))
  trivial
def famF (DK : List (Int × Str)) (DP : List (Int × Int)) (v : Int) : List Int := match DP.lookup v with | some p => isort ([p] ++ secF DK DP p) | none => [v]
theorem c_family (cx : Cx w mean mg mb outer A₀ base h₀ L m cs s.heap news) (hd : dp + 2 ≤ 500) (hu : un + 20 ≤ 5000)
    (hp : PrivAt news P kd pd od md) (hK : DictAt w news kd (IS DK)) (hP : DictAt w news pd (II DP)) (hz : DK.length < 63) (own : ∀ x ∈ DK.map Prod.fst, ∃ y, DP.lookup x = some y) (kp : ∀ v, DK.lookup v = none ↔ DP.lookup v = none) (v : Int) (t : Tok)
    (ret : ∀ D h' tk' ys k, Fr h₀ L h' m → News h₀ L h' ((D, listOf (List.toArray ys) k) :: news) → (∀ q ∈ news, @Ne Nat q.1 D) → IntsAre ys (famF DK DP v) → Q (.ref D) { s with heap := h', toks := tk' }) :
    wpAny (model PR w) (ktrTop dp un gd cn cs L a ccd cl outer) (call (.ref 131) [.ref P, .int v t]) Q E s := by
  obtain ⟨B, F, X, N, T, hk⟩ := cx
  have hp0 := hp
  have hK0 := hK
  have hP0 := hP
  obtain ⟨dx, h1, h2, h3, h4, t1, t2, t3, t4, n, mP, mD⟩ := hp
  obtain ⟨oK, kvsK, mK, loK, dK, fK⟩ := hK
  obtain ⟨oP, kvsP, mP', loP, dP, fP⟩ := hP
  unfold famF at ret
  cases e : DK.lookup v with
  | none =>
    have hl := lookS_none e
    rw [(kp v).mp e] at ret
    refine wpAny_call ?_
    k_dflt ktr_enter
    k_steps
    exact ret _ _ _ [.int v t] _ (by k_asm) (by k_asm) (by walk_at "mine fresh") (.cons _ _ .nil)
  | some x =>
    have hl := lookS_some e
    cases e2 : DP.lookup v with
    | none => rw [(kp v).mpr e2] at e; cases e
    | some p =>
      have hl2 := look_some e2
      rw [e2] at ret
      refine wpAny_call ?_
      k_dflt ktr_enter
      have hsl : (secF DK DP p).length ≤ DK.length := by
        unfold secF
        refine Nat.le_trans (List.length_filter_le _ _) ?_
        rw [(isort_perm _).length_eq, List.length_map]; exact Nat.le_refl _
      have hs1 : [p].length + (secF DK DP p).length ≤ sizeLine := by rw [sizeLine_eq]; show 1 + _ ≤ _; omega
      have hs2 : ([p] ++ secF DK DP p).length < 64 := by rw [List.length_append]; show 1 + _ < _; omega
      k_steps
      exact ret _ _ _ _ _ (by k_asm) (newsSub (by k_asm) (by walk_at "mine sub")) (by walk_at "mine fresh") (by k_asm)
end
end Mine
namespace Mine
theorem rowsP5_0 : True := by
  k_with_none
  k_with "mine down" => (first | exact fun _ h => h | (refine dn ?_; walk_at "mine down"))
  k_with "k_ne" => (first | with_reducible assumption | exact Ne.symm (by with_reducible assumption) | exact ltm_ne (by with_reducible assumption) (by k_mem) | exact ltm_en (by with_reducible assumption) (by k_mem) | exact Nat.ne_of_lt (by with_reducible assumption) | exact Nat.ne_of_gt (by with_reducible assumption) | exact ltm_c1 (by with_reducible assumption) (by k_mem) | exact ltm_d1 (by with_reducible assumption) (by k_mem) | exact ltm_c2 (by with_reducible assumption) (by k_mem) | exact ltm_d2 (by with_reducible assumption) (by k_mem) | exact ltm_c3 (by with_reducible assumption) (by k_mem) | exact ltm_d3 (by with_reducible assumption) (by k_mem) | exact ltm_c4 (by with_reducible assumption) (by k_mem) | exact ltm_d4 (by with_reducible assumption) (by k_mem) | exact ltm_c5 (by with_reducible assumption) (by k_mem) | exact ltm_d5 (by with_reducible assumption) (by k_mem) | (refine neN ?_; (try dsimp only); omega))
  k_with "k_all" => (first | exact ltm_all (by with_reducible assumption) (by walk_at "mine down") | exact ltm_a1 (by with_reducible assumption) (by walk_at "mine down") | exact ltm_a2 (by with_reducible assumption) (by walk_at "mine down") | exact ltm_a3 (by with_reducible assumption) (by walk_at "mine down") | exact ltm_a4 (by with_reducible assumption) (by walk_at "mine down") | exact ltm_a5 (by with_reducible assumption) (by walk_at "mine down"))
  trivial
/-- the tail of the mro of TableError and of StateError -/
abbrev BM : List Value := [.ref 31, .type "Exception", .type "BaseException", .type "object"]
/-- a fresh exception of class C -/
abbrev excOf (C t : Addr) : Obj := { cls := .ref C, data := .fields #[.ref t, .none, .none, .none, .bool false, .none] }
/-- the classes that are made by hand -/
abbrev clsOf (nm : Str) (C N : Addr) (k0 k2 k3 : Option Value) : Obj := excClassObj nm nm C N [.ref 31] BM true [] [] false none none k0 none k2 k3 (some (.bool true)) "Exception.__new__"
section
variable {prog : Program} {w : World} {A : Around} {E : Value → Shared → Prop} {h : Heap} {g : Array GenState} {d : Drawn} {t : Nat} {os : OsState}
  {nm : Str} {C N : Addr} {k0 k2 k3 : Option Value}

theorem bm_self : (Value.ref C :: BM).contains (.ref C) = true := by simp
theorem bm_exc : (Value.ref C :: BM).contains (.type "Exception") = true := by rw [List.contains_cons]; rfl
theorem bm_base : (Value.ref C :: BM).contains (.type "BaseException") = true := by rw [List.contains_cons]; rfl
theorem bm_attr : (Value.ref C :: BM).contains (.type "AttributeError") = false := by rw [List.contains_cons]; rfl
theorem bm_name : (Value.ref C :: BM).contains (.type "NameError") = false := by rw [List.contains_cons]; rfl

theorem own_check_new {M : Model} {rest : List Value} {Q : Unit → Shared → Prop} (hC : h.get? C = some (clsOf nm C N k0 k2 k3)) (hq : Q () ⟨h, g, d, t, os⟩) :
    wpAny M A (checkBuiltinCall "Exception.__new__" ⟨.ref C :: rest, []⟩) Q E ⟨h, g, d, t, os⟩ := by
  have F := PySem.F.excBase_Exception
  have hstar := F.noStar
  simp only [checkBuiltinCall, F.newKind, F.newSplit, F.newRow]
  repeat (first | with_reducible refine wpAny_loadPart_at hC ?_ | (with_reducible refine wpAny_isSubtype_exc hC ?_; rw [bm_exc]) | with_reducible refine wpAny_staticBase_exc hC ?_ | with_reducible refine wpAny_madeBy_exc hC ?_ | simp only [bne_self_eq_false, Bool.false_eq_true, if_false] | wp_step)
  exact hq

theorem own_new {R : Result → Shared → Prop} {rest : List Value} (hC : h.get? C = some (clsOf nm C N k0 k2 k3)) (hz : rest.length ≤ sizeLine)
    (hq : R (.ok (.ret (.ref (h.objs.size + 1)))) ⟨(h.push { cls := .type "tuple", data := .seq rest.toArray }).push (excOf C h.objs.size), g, d, t, os⟩) :
    codeAny (model prog w) A (.builtin "Exception.__new__" ⟨.ref C :: rest, []⟩) R ⟨h, g, d, t, os⟩ := by
  have F := PySem.F.excBase_Exception
  have hends := F.ends
  refine codeAny_builtinAt F.entry ?_
  unfold Builtin.«BaseException.__new__»
  refine PySem.wpAt_bind ?_
  show PySem.wpAt _ _ _ (stack >>= _) _ _ _
  refine PySem.wpAt_bind (PySem.wpAt_stack fun p below => PySem.wpAt_of_wpAny ?_)
  wp_walk
  refine PySem.wpAt_of_wpAny ?_
  rw [F.owner]
  repeat (first | with_reducible refine wpAny_madeHere_exc F.canon hC ?_ | with_reducible refine wpAny_loadPart_at hC ?_ | (with_reducible refine wpAny_isSubtype_exc hC ?_; first | rw [bm_exc] | rw [bm_attr] | rw [bm_name]) | wp_step)
  show R _ _
  rw [Heap.size_push]
  exact hq

theorem own_type_call {fI : Addr} {oI : Obj} {rest : List Value} {Q : Fin → Shared → Prop} (hC : h.get? C = some (clsOf nm C N k0 k2 k3)) (hz : rest.length ≤ sizeLine)
    (hi : Looks (model prog w) h (typeLookup (.ref C) "__init__") (some (.ref fI))) (hfI : h.get? fI = some oI) (hfc : oI.cls = .type "function")
    (hq : ∀ h' e, Heap.MadeExcOf h h' e (.ref C) rest → wpAny (model prog w) A (call (.ref fI) (.ref e :: rest)) (fun r s' => r = .none ∧ Q (.done (.ret (.ref e))) s') E ⟨h', g, d, t, os⟩) :
    wpAny (model prog w) A (Builtin.«type.__call__» ⟨.ref C :: rest, []⟩) Q E ⟨h, g, d, t, os⟩ := by
  have F := PySem.F.excBase_Exception
  repeat (first | with_reducible refine wpAny_loadPart_at hC ?_ | with_reducible refine wpAny_madeBy_exc hC ?_ | wp_step)
  refine codeAny_call_builtin_code (Code.quiet_builtin _ F.quiet) (own_check_new hC ?_)
  refine own_new hC hz ?_
  show wpAny _ _ _ _ _ _
  have up : ∀ b o, h.get? b = some o → ((h.push { cls := .type "tuple", data := .seq rest.toArray }).push (excOf C h.objs.size)).get? b = some o := fun b o e => Heap.get?_push_of_some _ (Heap.get?_push_of_some _ e)
  have hget : ((h.push { cls := .type "tuple", data := .seq rest.toArray }).push (excOf C h.objs.size)).get? (h.objs.size + 1) = some (excOf C h.objs.size) := by heap_get
  unfold isInstance
  repeat (first | with_reducible refine wpAny_loadPart_at hget ?_ | (with_reducible refine wpAny_isSubtype_exc (up _ _ hC) ?_; rw [bm_self]) | wp_step)
  show wpAny _ _ (typeLookup (.ref C) _) _ _ _
  refine (hi.keeps up).at ?_
  refine wpAny_holding (wpAny_bind ?_)
  unfold bindSpecial
  refine wpAny_bind (wpAny_typeOf (T := "function") ⟨_, up _ _ hfI, hfc⟩ ?_)
  rw [if_pos (by decide)]
  refine wpAny_pure (wpAny_bind (wpAny_mono (hq _ (h.objs.size + 1) ⟨up, Heap.get?_none_of_le (Nat.le_succ _), h.objs.size, hget, Heap.get?_none_of_le (Nat.le_refl _), ?_⟩) (fun r s' hr => ?_) fun _ _ x => x))
  · exact Heap.get?_push_of_some _ (Heap.get?_push_at rfl rfl)
  · obtain ⟨rfl, hQ⟩ := hr
    wp_walk
    exact hQ

theorem own_call {fI : Addr} {oI : Obj} {rest : List Value} {Q : Value → Shared → Prop} (hC : h.get? C = some (clsOf nm C N k0 k2 k3)) (hz : rest.length ≤ sizeLine)
    (hi : Looks (model prog w) h (typeLookup (.ref C) "__init__") (some (.ref fI))) (hfI : h.get? fI = some oI) (hfc : oI.cls = .type "function")
    (hq : ∀ h' e, Heap.MadeExcOf h h' e (.ref C) rest → wpAny (model prog w) (A.under (.builtin "type.__call__" ⟨.ref C :: rest, []⟩)) (call (.ref fI) (.ref e :: rest)) (fun r s' => r = .none ∧ Q (.ref e) s') E ⟨h', g, d, t, os⟩) :
    wpAny (model prog w) A (call (.ref C) rest) Q E ⟨h, g, d, t, os⟩ := by
  have f1 := tc_lookup
  have f2 := tc_bind (.ref C)
  have hT : (⟨h, g, d, t, os⟩ : Shared).TypeIs (.ref C) "type" := ⟨_, hC, rfl⟩
  refine wpAny_call (codeAny_of_tree ?_)
  show wpAny _ _ (callAny (.ref C) _) _ _ _
  repeat (any_goals (first | assumption | with_reducible refine wpAny_loadPart_at hC ?_ | wp_step))
  refine ⟨rfl, ?_⟩
  refine codeAny_call_builtin_at (Code.quiet_builtin _ (by decide +kernel)) entry_typeCall (wpAny_check_type_call_sub hC (own_type_call hC hz hi hfI hfc fun h' e hm => ?_))
  exact hq h' e hm
end
end Mine
namespace Mine
theorem rowsP6_0 : True := by
  k_with_none
  k_with "mine down" => (first | exact fun _ h => h | (refine dn ?_; walk_at "mine down"))
  k_with "k_ne" => (first | with_reducible assumption | exact Ne.symm (by with_reducible assumption) | exact ltm_ne (by with_reducible assumption) (by k_mem) | exact ltm_en (by with_reducible assumption) (by k_mem) | exact Nat.ne_of_lt (by with_reducible assumption) | exact Nat.ne_of_gt (by with_reducible assumption) | exact ltm_c1 (by with_reducible assumption) (by k_mem) | exact ltm_d1 (by with_reducible assumption) (by k_mem) | exact ltm_c2 (by with_reducible assumption) (by k_mem) | exact ltm_d2 (by with_reducible assumption) (by k_mem) | exact ltm_c3 (by with_reducible assumption) (by k_mem) | exact ltm_d3 (by with_reducible assumption) (by k_mem) | exact ltm_c4 (by with_reducible assumption) (by k_mem) | exact ltm_d4 (by with_reducible assumption) (by k_mem) | exact ltm_c5 (by with_reducible assumption) (by k_mem) | exact ltm_d5 (by with_reducible assumption) (by k_mem) | (refine neN ?_; (try dsimp only); omega))
  k_with "k_all" => (first | exact ltm_all (by with_reducible assumption) (by walk_at "mine down") | exact ltm_a1 (by with_reducible assumption) (by walk_at "mine down") | exact ltm_a2 (by with_reducible assumption) (by walk_at "mine down") | exact ltm_a3 (by with_reducible assumption) (by walk_at "mine down") | exact ltm_a4 (by with_reducible assumption) (by walk_at "mine down") | exact ltm_a5 (by with_reducible assumption) (by walk_at "mine down"))
  trivial
abbrev tup1 (v : Value) : Obj := { cls := .type "tuple", data := .seq #[v] }
section
variable {prog : Program} {w : World} {A : Around} {E : Value → Shared → Prop} {s : Shared} {h₀ : Heap} {L : Addr} {m : Str → Option Value} {news : List (Addr × Obj)}
  {nm : Str} {C Nn e t1 : Addr} {k0 k2 k3 : Option Value}

theorem own_check_init {M : Model} {v : Value} {oe : Obj} {Q : Unit → Shared → Prop} {h : Heap} {g : Array GenState} {d : Drawn} {t : Nat} {os : OsState} (hC : h.get? C = some (clsOf nm C Nn k0 k2 k3)) (he : h.get? e = some oe) (hcls : oe.cls = .ref C) (hq : Q () ⟨h, g, d, t, os⟩) :
    wpAny M A (checkBuiltinCall "Exception.__init__" ⟨[.ref e, v], []⟩) Q E ⟨h, g, d, t, os⟩ := by
  have F := PySem.F.excBase_Exception
  have hshort := F.noStar
  simp only [checkBuiltinCall, F.initKind, F.initSplit, F.initRow]
  repeat (first | (with_reducible refine wpAny_loadPart_at he ?_; rw [hcls]) | with_reducible refine wpAny_loadPart_at hC ?_ | (with_reducible refine wpAny_isSubtype_exc hC ?_; rw [bm_exc]) | wp_step)
  exact hq

theorem own_exc_init {v : Value} {Q : Value → Shared → Prop} (F : Fr h₀ L s.heap m) (N : News h₀ L s.heap ((e, excOf C t1) :: news)) (off : ∀ p ∈ news, p.1 ≠ e) (hC : s.heap.get? C = some (clsOf nm C Nn k0 k2 k3))
    (h : ∀ t2 h', Fr h₀ L h' m → News h₀ L h' ((e, excOf C t2) :: news) → h'.get? t2 = some (tup1 v) → h₀.get? t2 = none → t2 ≠ L → t2 ≠ e → (∀ p ∈ news, p.1 ≠ t2) → Q .none { s with heap := h' }) :
    wpAny (model prog w) A (call (.builtin "Exception.__init__") [.ref e, v]) Q E s := by
  have Fa := PySem.F.excBase_Exception
  obtain ⟨he, heL, he0⟩ := N _ (.head _)
  have helt := Heap.lt_size he
  obtain ⟨hh, g, d, t, os⟩ := s
  dsimp only at F N hC h he helt
  refine wpAny_call (codeAny_call_builtin Fa.init.plain Fa.initEntry (own_check_init hC he rfl ?_))
  unfold Builtin.«BaseException.__init__»
  dsimp only
  rw [if_neg (by simp)]
  unfold newTuple Builtin.BaseException.bexcPut
  have he₁ := Heap.get?_push_of_some (h := hh) { cls := .type "tuple", data := .seq [v].toArray } he
  refine wpAny_bind (wpAny_newObj_type (wpAny_bind (wpAny_bind (wpAny_field he₁ rfl rfl (wpAny_bind (wpAny_setField he₁ rfl (Nat.zero_lt_succ _) ?_))))) (by show 1 ≤ sizeLine; rw [sizeLine_eq]; decide))
  refine wpAny_letGo (wpAny_pure ?_)
  have hne : e ≠ hh.objs.size := Nat.ne_of_lt helt
  have old : ∀ b o, b ∉ [e] → hh.get? b = some o → ((hh.push { cls := .type "tuple", data := .seq [v].toArray }).update e (Obj.mapFields (·.setIfInBounds 0 (.ref hh.objs.size)))).get? b = some o := fun b o hb q => by
    rw [Heap.get?_update_other _ _ (fun z => hb (by rw [z]; exact .head _))]
    exact Heap.get?_push_of_some _ q
  have hLl : L < hh.objs.size := F.ns.lt
  have h0s : h₀.get? hh.objs.size = none := by
    cases q : h₀.get? hh.objs.size with
    | none => rfl
    | some o' => exact absurd (Heap.lt_size (F.keep _ _ q)) (Nat.lt_irrefl _)
  refine h hh.objs.size _ (LCg.fr_but F old (Ne.symm heL) he0) (fun p hp => ?_) ?_ h0s (Ne.symm (Nat.ne_of_lt hLl)) (Ne.symm hne) (fun p hp => Nat.ne_of_lt (Heap.lt_size (N p (.tail _ hp)).1))
  · rcases List.mem_cons.mp hp with rfl | hp
    · refine ⟨?_, heL, he0⟩
      rw [Heap.get?_update_self _ he₁ rfl]
      rfl
    · have z := N p (.tail _ hp)
      exact ⟨old _ _ (by simpa using off p hp) z.1, z.2⟩
  · rw [Heap.get?_update_other _ _ hne]
    exact Heap.get?_push_at rfl rfl

theorem own_set {x : Str} {v : Value} {oe : Obj} {vs : Array Value} {K : Frag} {Q : Unit → Shared → Prop} (F : Fr h₀ L s.heap m) (N : News h₀ L s.heap ((e, oe) :: news)) (off : ∀ p ∈ news, p.1 ≠ e) (hc : oe.cls = .ref C) (hd : oe.data = .fields vs) (hn : oe.dict = none)
    (X₀ : K.In h₀) (hC : s.heap.get? C = some (clsOf nm C Nn k0 k2 k3)) (hs : findIn K (.ref C) "__setattr__" = some (some (.builtin "object.__setattr__"))) (hx : findIn K (.ref C) x = some none)
    (h : ∀ dx h' tk', Fr h₀ L h' m → News h₀ L h' ((e, { oe with dict := some dx }) :: news) → s.heap.get? dx = none → (∀ b o, b ≠ e → s.heap.get? b = some o → h'.get? b = some o) → Q () { s with heap := h', toks := tk' }) :
    wpAny (model prog w) A (setAttr (.ref e) x v) Q E s := by
  have SF := PySem.F.store_object
  have SE := PySem.F.store_Exception
  have X := X₀.keeps F.keep
  obtain ⟨he, heL, he0⟩ := N _ (.head _)
  have I : W.InstAt s.heap e oe C none := ⟨he, hc, by unfold notCls; rw [hd], by rw [hn]; trivial⟩
  refine set_plain X I hs ?_
  have sub : Looks (model prog w) s.heap (isInstance (.ref e) (.type "object")) true := I.type.andThen (fun A' Q' E' s' k q => by
    obtain ⟨a1, a2, a3, a4, a5⟩ := s'
    exact wpAny_isSubtype_exc (k _ _ hC) (by rw [List.contains_cons]; exact q))
  refine codeAny_call_builtin SF.slot.plain SF.entry (@check_slot (model prog w) _ _ _ "object.__setattr__" "object" "__setattr__" (.ref e) [.str x s.toks, v] [] _ SF.kind SF.split sub (SF.args (.ref e) (.str x s.toks) v) ?_)
  rw [osa_eq, refuse_eq]
  have hm : Looks (model prog w) s.heap (mroOf (.ref C)) (.ref C :: BM) := fun A' Q' E' s' k q => by
    obtain ⟨a1, a2, a3, a4, a5⟩ := s'
    exact wpAny_mroOf_exc (k _ _ hC) q
  have It := I.type (M := model prog w)
  have Ix := looks_findIn (M := model prog w) X hx
  obtain ⟨hh, g, d, t, os⟩ := s
  obtain ⟨oc, od, odt, osl⟩ := oe
  dsimp only at F N hC h he hc hd hn hm It Ix ⊢
  subst hc hd hn
  refine wpAny_bind (wpAny_bind (It.at (wpAny_bind (hm.at ?_))))
  rw [refuseLoop_ref, refuseLoop_ref, SE.passes]
  refine wpAny_pure (wpAny_bind (It.at (wpAny_bind (Ix.at (wpAny_bind ((Looks.now (h := hh) (a := none)).at ?_))))))
  refine wpAny_bind (wpAny_pure (wpAny_bind ?_))
  unfold Builtin.ObjectAttr.ownDictForStores
  show wpAny _ _ (instanceDict e true) _ _ _
  unfold instanceDict
  iterate 9 (first | with_reducible refine wpAny_loadPart_at he ?_ | with_reducible refine wpAny_loadPart_at hC ?_ | wp_step)
  have hx₁ : (hh.push { cls := .type "dict", data := .dict #[] }).get? e = some { cls := Value.ref C, data := Data.fields vs, slots := osl } := Heap.get?_push_of_some _ he
  have helt := Heap.lt_size he
  have hes : e ≠ hh.objs.size := Nat.ne_of_lt helt
  refine wpAny_bind (wpAny_alloc' ?_)
  refine wpAny_bind (wpAny_update' hx₁ ?_)
  refine wpAny_pure ?_
  have hgd : ((hh.push { cls := .type "dict", data := .dict #[] }).update e fun o => { cls := o.cls, dict := some hh.objs.size, data := o.data, slots := o.slots }).get? hh.objs.size
      = some { cls := .type "dict", data := .dict #[] } :=
    (Heap.get?_update_ne _ _ _ _ hes.symm).trans (Heap.get?_push_at rfl rfl)
  have hnd : ((hh.push { cls := .type "dict", data := .dict #[] }).update e fun o => { cls := o.cls, dict := some hh.objs.size, data := o.data, slots := o.slots }).Ns hh.objs.size (fun _ => none) :=
    ⟨_, #[], _, hgd, rfl, fun e he => absurd he (by simp), fun _ => rfl⟩
  show wpAny _ _ (Builtin.ObjectAttr.storeInDict hh.objs.size (.str x t) x v) _ _ _
  unfold Builtin.ObjectAttr.storeInDict Builtin.ObjectAttr.newKeyGuard
  refine wpAny_bind (wpAny_pure (wpAny_bind (wpAny_nsSet1 (Heap.Ns1.of_empty hnd) fun h' hn' hs' => ?_)))
  obtain ⟨oD, esD, epD, hoD, hdD, hcD⟩ := hn'.count (Within.cons x v Within.nil)
  refine wpAny_bind (wpAny_lookBehind hoD (by rw [hdD]; exact pastItsLine_dict (Nat.le_trans hcD (by rw [List.length_cons, List.length_nil, sizeLine_eq]; omega))) ?_)
  wp_walk
  have old : ∀ b o, b ≠ e → hh.get? b = some o → h'.get? b = some o := fun b o hb q =>
    (hs'.2 b (Nat.ne_of_lt (Heap.lt_size q))).trans ((Heap.get?_update_ne _ _ _ _ hb).trans (Heap.get?_push_of_some _ q))
  have h0s : hh.get? hh.objs.size = none := Heap.get?_none_of_le (Nat.le_refl _)
  refine h hh.objs.size h' _ (LCg.fr_but F (fun b o hb q => old b o (by simpa using hb) q) (Ne.symm heL) he0) (fun p hp => ?_) h0s old
  rcases List.mem_cons.mp hp with rfl | hp
  · refine ⟨?_, heL, he0⟩
    exact (hs'.2 e hes).trans (Heap.get?_update_self _ hx₁ rfl)
  · have z := N p (.tail _ hp)
    exact ⟨old _ _ (off p hp) z.1, z.2⟩
end
end Mine
namespace Mine
theorem rowsP7_0 : True := by
  k_with_none
  k_with "mine down" => (first | exact fun _ h => h | (refine dn ?_; walk_at "mine down"))
  k_with "k_ne" => (first | with_reducible assumption | exact Ne.symm (by with_reducible assumption) | exact ltm_ne (by with_reducible assumption) (by k_mem) | exact ltm_en (by with_reducible assumption) (by k_mem) | exact Nat.ne_of_lt (by with_reducible assumption) | exact Nat.ne_of_gt (by with_reducible assumption) | exact ltm_c1 (by with_reducible assumption) (by k_mem) | exact ltm_d1 (by with_reducible assumption) (by k_mem) | exact ltm_c2 (by with_reducible assumption) (by k_mem) | exact ltm_d2 (by with_reducible assumption) (by k_mem) | exact ltm_c3 (by with_reducible assumption) (by k_mem) | exact ltm_d3 (by with_reducible assumption) (by k_mem) | exact ltm_c4 (by with_reducible assumption) (by k_mem) | exact ltm_d4 (by with_reducible assumption) (by k_mem) | exact ltm_c5 (by with_reducible assumption) (by k_mem) | exact ltm_d5 (by with_reducible assumption) (by k_mem) | (refine neN ?_; (try dsimp only); omega))
  k_with "k_all" => (first | exact ltm_all (by with_reducible assumption) (by walk_at "mine down") | exact ltm_a1 (by with_reducible assumption) (by walk_at "mine down") | exact ltm_a2 (by with_reducible assumption) (by walk_at "mine down") | exact ltm_a3 (by with_reducible assumption) (by walk_at "mine down") | exact ltm_a4 (by with_reducible assumption) (by walk_at "mine down") | exact ltm_a5 (by with_reducible assumption) (by walk_at "mine down"))
  trivial
theorem fill7 : (hd.heap_1 = hd.heap_1) ∧ (PySem.Challenge.rw_pb0538_01 = PySem.Challenge.rw_pb0538_01) := by k_fill; exact ⟨rfl, rfl⟩
theorem rowsP7_1 : True := by
  k_with "compareOp In int ref" => (k_here; k_dflt (first | refine in_hit (by k_tabat) (by assumption) ?_ | refine in_miss (by k_tabat) (by assumption) ?_))
  k_with "compareOp NotIn int ref" => (k_here; k_dflt (first | refine notin_hit (by k_tabat) (by assumption) ?_ | refine notin_miss (by k_tabat) (by assumption) ?_))
  k_with "mine cx" => exact ⟨by k_asm, by k_asm, by k_asm, by k_asm, by k_asm, by first | exact rfl | assumption⟩
  k_with "mine sub" => (first | exact fun _ h => h | exact sub_skip (fun _ h => h) | exact sub_skip (sub_skip (fun _ h => h)) | exact sub_skip (sub_skip (sub_skip (fun _ h => h))) | exact sub_skip (sub_skip (sub_skip (sub_skip (fun _ h => h)))) | exact sub_skip (sub_skip (sub_skip (sub_skip (sub_skip (fun _ h => h))))) | exact sub_skip (sub_skip (sub_skip (sub_skip (sub_skip (sub_skip (fun _ h => h)))))) | exact sub_keep (sub_skip (fun _ h => h)) | exact sub_keep (sub_skip (sub_skip (fun _ h => h))) | exact sub_keep (sub_skip (sub_skip (sub_skip (fun _ h => h)))) | exact sub_keep (sub_skip (sub_skip (sub_skip (sub_skip (fun _ h => h))))) | exact sub_keep (sub_skip (sub_skip (sub_skip (sub_skip (sub_skip (fun _ h => h)))))) | exact sub_keep (sub_skip (sub_skip (sub_skip (sub_skip (sub_skip (sub_skip (fun _ h => h))))))))
  k_with "mine priv" => (first | assumption | exact PrivAt.mono (by assumption) (by walk_at "mine sub"))
  k_with "mine dict" => (first | assumption | exact DictAt.mono (by assumption) (by walk_at "mine sub"))
  k_with "mine room" => ((try simp only [depth_under_make, depth_under_kw, depth_in1, depth_deeper, depth_caller, units_in1, units_deeper, Around.mark_units, units_caller]); (try dsimp only [ktrTop]); omega)
  k_with "call ref" => (k_here; (with_reducible show wpAny _ _ (call (Value.ref 119) _) _ _ _); k_dflt (refine' c_kind_of ?zqcx ?zqd ?zqu ?zqp ?zqK _ _ ?_; (case zqcx => walk_at "mine cx"); (case zqd => walk_at "mine room"); (case zqu => walk_at "mine room"); (case zqp => walk_at "mine priv"); (case zqK => walk_at "mine dict")); intro r' h' tk' F' N' hr'; obtain ⟨t', er'⟩ := hr'; subst er'; (try dsimp only))
  k_with "call ref" => (k_here; (with_reducible show wpAny _ _ (call (Value.ref 138) _) _ _ _); k_dflt (refine' c_vfl ?zqcx ?zqd ?zqu ?zqp ?zqK _ _ ?_; (case zqcx => walk_at "mine cx"); (case zqd => walk_at "mine room"); (case zqu => walk_at "mine room"); (case zqp => walk_at "mine priv"); (case zqK => walk_at "mine dict")); intro r' h' tk' F' N' hr'; obtain ⟨t', er'⟩ := hr'; subst er'; (try dsimp only))
  k_with "mine fin" => (first | rfl | ((try dsimp only [vflV]); split <;> first | rfl | contradiction | (split <;> first | rfl | contradiction)))
  k_with "mine led" => (first | k_asm | exact drop1 (by k_asm) | exact drop2 (by k_asm) | exact drop3 (by k_asm) | exact drop4 (by k_asm))
  k_with "mine enterC" => (refine' code_defC ?zqk1 ?zqk2 ?zqk3 ?zqk4 ?zqk5 ?zqkA ?zqkF ?zqkK ?zqk6 ?zqk7 ?zqk8 ?zqk9 ?zqkB ?zqkD ?_ ?zqc2 ?zqc3 ?zqc4; (case zqkA => exact rfl); (case zqkF => exact rfl); (case zqkK => assumption); (case zqk1 => k_asm); (case zqk2 => k_asm); (case zqk3 => k_asm); (case zqk4 => k_asm); (case zqk5 => k_asm); (case zqk6 => k_is); (case zqk7 => k_is); (case zqk8 => ktr_room); (case zqk9 => exact BindsTo.of_eq rfl); (case zqkB => exact rfl); (case zqkD => decide +kernel); (case zqc2 => exact rfl); (case zqc3 => exact rfl); (case zqc4 => exact rfl); k_whole; intro g' L' h' tk' cells' FG' F' N' Y' B' X' T' l1; (try k_lt l1); k_cells Y'; (try simp only [List.cons_append, List.nil_append] at N'); (try dsimp only); (try k_fold))
  k_with "k_all" => assumption
  k_with "k_mem" => (first | exact List.Mem.head _ | ktr_member | (refine' List.mem_cons_of_mem _ ?_; k_mem))
  k_with "setItem ref int" => (k_here; k_dflt (refine' setItem_K PyProof.V.same_int (intKind_is _ _ _ _) ?zqv ?zqF ?zqN ?zqU ?zqd ?zqf ?_ ?zqz; (case zqF => k_asm); (case zqN => k_asm); (case zqU => k_updF); (case zqd => k_asm); (case zqf => k_asm); (case zqz => first | exact len_II (by assumption) | exact len_IS (by assumption)); (case zqv => k_flat)); intro h' o' F' N' hd' hf'; (try dsimp only at N'); (try k_sweep))
  k_with "call ref" => (k_here; (with_reducible show wpAny _ _ (call (Value.ref 119) _) _ _ _); k_dflt (refine' c_kind_is ?zqcx ?zqd ?zqu ?zqp ?zqK _ _ _ ?zqe ?_; (case zqcx => walk_at "mine cx"); (case zqd => walk_at "mine room"); (case zqu => walk_at "mine room"); (case zqp => walk_at "mine priv"); (case zqK => walk_at "mine dict"); (case zqe => assumption)); intro r' h' tk' F' N' hr'; obtain ⟨t', er'⟩ := hr'; subst er'; (try dsimp only))
  k_with "call ref" => (k_here; (with_reducible show wpAny _ _ (call (Value.ref 91) _) _ _ _); k_dflt (refine' c_need_plain ?zqcx ?zqd ?zqu ?zqp ?zqK _ _ ?zqe ?_; (case zqcx => walk_at "mine cx"); (case zqd => walk_at "mine room"); (case zqu => walk_at "mine room"); (case zqp => walk_at "mine priv"); (case zqK => walk_at "mine dict"); (case zqe => assumption)); intro r' h' tk' F' N' hr'; subst hr'; (try dsimp only))
  k_with "call ref" => (k_here; (with_reducible show wpAny _ _ (call (Value.ref 112) _) _ _ _); k_dflt (refine' c_need_free ?zqcx ?zqd ?zqu ?zqp ?zqH ?zqM _ _ ?zqe ?zqe2 ?_; (case zqcx => walk_at "mine cx"); (case zqd => walk_at "mine room"); (case zqu => walk_at "mine room"); (case zqp => walk_at "mine priv"); (case zqH => walk_at "mine dict"); (case zqM => walk_at "mine dict"); (case zqe => assumption); (case zqe2 => assumption)); intro r' h' tk' F' N' hr'; subst hr'; (try dsimp only))
  k_with "call builtin:sorted" => (k_here; (with_reducible show wpAny _ _ (call (Value.builtin "sorted") [Value.ref _]) _ _ _); k_dflt (refine sortD (by rfl) (by k_asm) (by k_asm) (by k_tabat) (by omega) ?_); intro D' h' tk' vs' k' F' N' l1 hi'; (try k_lt l1))
  k_with "mine fresh" => (first | assumption | exact ltm_all (by with_reducible assumption) (by walk_at "mine down") | exact lt_ne (by assumption) | exact allLt_ne (by k_asm) | exact off1_mem (by k_asm) | (rename _ ∧ _ => o9; first | exact off1_mem o9.2 | exact off1_mem o9.2.2 | exact off1_mem o9.2.2.2 | exact allLt_ne o9.2 | exact allLt_ne o9.2.2 | exact allLt_ne o9.2.2.2))
  k_with "binaryOp Add ref ref" => (k_here; (with_reducible show wpAny _ _ (binaryOp _ (Value.ref _) (Value.ref _)) _ _ _); k_dflt (refine' kmk_add_ints ?zqF ?zqN ?zqa ?zqb ?zqi ?zqj ?_ ?zqz; (case zqF => k_asm); (case zqN => k_asm); (case zqa => kmk_list); (case zqb => exact ⟨_, (News.get (by k_asm) (by k_mem)), rfl, _, rfl⟩); (case zqi => l_ints); (case zqj => assumption); (case zqz => assumption)); intro D' ws' h' F' N' l1 hI'; (try k_lt l1))
  k_with "call builtin:sorted" => (k_here; (with_reducible show wpAny _ _ (call (Value.builtin "sorted") [Value.ref _]) _ _ _); k_dflt (refine sortL (by k_asm) (by k_asm) (by k_mem) (by assumption) (by assumption) ?_); intro D' h' tk' vs' k' F' N' l1 hi'; (try k_lt l1))
  k_with "call ref" => (k_here; (with_reducible show wpAny _ _ (call (Value.ref 124) _) _ _ _); k_dflt (refine' c_secondaries ?zqcx ?zqd ?zqu ?zqp ?zqK ?zqP ?zqz ?zqown _ _ ?_; (case zqcx => walk_at "mine cx"); (case zqd => walk_at "mine room"); (case zqu => walk_at "mine room"); (case zqp => walk_at "mine priv"); (case zqK => walk_at "mine dict"); (case zqP => walk_at "mine dict"); (case zqz => assumption); (case zqown => assumption)); intro D' h' tk' ys' k' F' N' l1 hi'; (try dsimp only))
  trivial
theorem meta_Exc : typeOf (.type "Exception") = pure (.type "type") := by rfl
theorem hand_Exc : handedIn (.builtin "Exception.__init__") = true := by decide +kernel
theorem stub_Exc : Manifest.isStub "Exception" = false := by decide +kernel
theorem cls_Exc (K : Frag) : findCls K (.type "Exception") (.type "type") "__init__" = some (.val (.builtin "Exception.__init__")) := by kernel_rfl
section
variable {w : World} {A : Around} {E : Value → Shared → Prop} {s : Shared} {h₀ : Heap} {L : Addr} {m : Str → Option Value} {news : List (Addr × Obj)} {K : Frag}
  {nm : Str} {C Nn e t1 : Addr} {k0 k2 k3 : Option Value}
theorem init_K {v : Value} {Q : Value → Shared → Prop} (F : Fr h₀ L s.heap m) (N : News h₀ L s.heap ((e, excOf C t1) :: news)) (off : ∀ p ∈ news, p.1 ≠ e) (X₀ : K.In h₀) (hl : K.lookup C = some (clsOf nm C Nn k0 k2 k3))
    (h : ∀ t2 h', Fr h₀ L h' m → News h₀ L h' ((e, excOf C t2) :: (t2, tup1 v) :: news) → t2 ≠ e → (∀ p ∈ news, p.1 ≠ t2) → Q .none { s with heap := h' }) :
    wpAny (model PR w) A (call (.builtin "Exception.__init__") [.ref e, v]) Q E s :=
  own_exc_init F N off (X₀.keeps F.keep _ _ hl) fun t2 h' F' N' a b c d e => h t2 h' F' (fun p hp => by
    rcases List.mem_cons.mp hp with rfl | hp
    · exact N' _ (.head _)
    · rcases List.mem_cons.mp hp with rfl | hp
      · exact ⟨a, c, b⟩
      · exact N' _ (.tail _ hp)) d e
theorem set_K {x : Str} {v : Value} {Q : Unit → Shared → Prop} (F : Fr h₀ L s.heap m) (N : News h₀ L s.heap ((e, excOf C t1) :: news)) (off : ∀ p ∈ news, p.1 ≠ e)
    (X₀ : K.In h₀) (hl : K.lookup C = some (clsOf nm C Nn k0 k2 k3)) (hs : findIn K (.ref C) "__setattr__" = some (some (.builtin "object.__setattr__"))) (hx : findIn K (.ref C) x = some none)
    (h : ∀ dx h' tk', Fr h₀ L h' m → News h₀ L h' ((e, { excOf C t1 with dict := some dx }) :: news) → Q () { s with heap := h', toks := tk' }) :
    wpAny (model PR w) A (setAttr (.ref e) x v) Q E s :=
  own_set F N off rfl rfl rfl X₀ (X₀.keeps F.keep _ _ hl) hs hx fun dx h' tk' F' N' _ _ => h dx h' tk' F' N'
end
theorem off_cons {e t : Addr} {o : Obj} {news : List (Addr × Obj)} (h : t ≠ e) (x : ∀ p ∈ news, p.1 ≠ e) : ∀ p ∈ (t, o) :: news, p.1 ≠ e := List.forall_mem_cons.mpr ⟨h, x⟩
theorem rowsP7_2 : True := by
  k_with "call builtin:Exception.__init__" => (k_here; k_dflt (refine' init_K ?zqF ?zqN ?zqo ?zqX ?zql ?_; (case zqF => k_asm); (case zqN => k_asm); (case zqo => assumption); (case zqX => k_asm); (case zql => k_is)); intro t' h' F' N' ne' nn')
  k_with "setAttr ref" => (k_here; k_dflt (refine' set_K ?zqF ?zqN ?zqo ?zqX ?zql ?zqs ?zqx ?_; (case zqF => k_asm); (case zqN => k_asm); (case zqo => exact off_cons (by assumption) (by assumption)); (case zqX => k_asm); (case zql => k_is); (case zqs => k_is); (case zqx => k_is)); intro dx' h' tk' F' N')
  k_with "getMethod type:Exception" => (k_here; refine' method_type (T := "Exception") (K := _root_.Mine.hd.heap_1 _) ?zqF ?zqX meta_Exc stub_Exc (cls_Exc _) ?zqh ?_; (case zqF => k_asm); (case zqX => k_asm); (case zqh => exact hand_Exc))
  trivial
section
variable {w : World} {mean : ExcName → Option Value} {mg mb : Str → Option Value} {dp un : Nat} {gd : Option (List Code)} {cn : Str} {cs : Scope} {a : Addr} {ccd : Value} {cl : List (Str × Addr)} {outer : List Env} {A₀ : Around} {base h₀ : Heap} {L : Addr} {m : Str → Option Value} {s : Shared} {news : List (Addr × Obj)} {Q E : Value → Shared → Prop}
  {P kd pd od md : Addr} {DK : List (Int × Str)} {DP DH DM : List (Int × Int)}


theorem c_make44 (cx : Cx w mean mg mb outer A₀ base h₀ L m cs s.heap news) (hd : dp + 3 ≤ 500) (hu : un + 30 ≤ 5000) (x : Str) (t : Tok)
    (ret : ∀ e oe t2 h' tk', Fr h₀ L h' m → News h₀ L h' ((e, oe) :: (t2, tup1 (.str x t)) :: news) → oe.cls = .ref 44 → oe.data = .fields #[.ref t2, .none, .none, .none, .bool false, .none] → (∀ q ∈ (t2, tup1 (.str x t)) :: news, q.1 ≠ e) → (∀ q ∈ news, q.1 ≠ t2) → Q (.ref e) { s with heap := h', toks := tk' }) :
    wpAny (model PR w) (ktrTop dp un gd cn cs L a ccd cl outer) (call (.ref 44) [.str x t]) Q E s := by
  obtain ⟨B, F, X, N, T, hk⟩ := cx
  have X' := X.keeps F.keep
  have hC : s.heap.get? 44 = some (clsOf "TableError" 44 43 (some (.ref 35)) (some (.str "TableError" 218)) (some (.str "TableError" 226))) := X' _ _ (by k_is)
  have hI : Looks (model PR w) s.heap (typeLookup (.ref 44) "__init__") (some (.ref 28)) := looks_findIn X' (by k_is)
  refine own_call (C := 44) (rest := [.str x t]) hC (by show 1 ≤ sizeLine; rw [sizeLine_eq]; omega) hI (X' _ _ (by k_is)) rfl fun h' e hm => ?_
  obtain ⟨t1, he, htn, ht⟩ := hm.there
  have he0 : h₀.get? e = none := by
    cases q : h₀.get? e with
    | none => rfl
    | some o => have z := hm.new; rw [F.keep _ _ q] at z; cases z
  have F1 : Fr h₀ L h' m := F.keeps hm.keeps
  have heL : e ≠ L := by
    intro q
    obtain ⟨o, es, ep, ho, _⟩ := F.ns
    have z := hm.new
    rw [q, ho] at z; cases z
  have N1 : News h₀ L h' ((e, excOf 44 t1) :: news) := fun p hp => by
    rcases List.mem_cons.mp hp with rfl | hp
    · exact ⟨he, heL, he0⟩
    · exact ⟨hm.keeps _ _ (N p hp).1, (N p hp).2⟩
  have offe : ∀ p ∈ news, p.1 ≠ e := fun p hp q => by
    have z := hm.new
    rw [← q, (N p hp).1] at z; cases z
  refine wpAny_call ?_
  k_dflt ktr_enter
  k_steps
  exact ret e _ _ _ _ (by k_asm) (by k_asm) rfl rfl (off_cons (by assumption) (by assumption)) (by assumption)

theorem c_make56 (cx : Cx w mean mg mb outer A₀ base h₀ L m cs s.heap news) (hd : dp + 3 ≤ 500) (hu : un + 30 ≤ 5000) (x : Str) (t : Tok)
    (ret : ∀ e oe t2 h' tk', Fr h₀ L h' m → News h₀ L h' ((e, oe) :: (t2, tup1 (.str x t)) :: news) → oe.cls = .ref 56 → oe.data = .fields #[.ref t2, .none, .none, .none, .bool false, .none] → (∀ q ∈ (t2, tup1 (.str x t)) :: news, q.1 ≠ e) → (∀ q ∈ news, q.1 ≠ t2) → Q (.ref e) { s with heap := h', toks := tk' }) :
    wpAny (model PR w) (ktrTop dp un gd cn cs L a ccd cl outer) (call (.ref 56) [.str x t]) Q E s := by
  obtain ⟨B, F, X, N, T, hk⟩ := cx
  have X' := X.keeps F.keep
  have hC : s.heap.get? 56 = some (clsOf "StateError" 56 55 (some (.ref 47)) (some (.str "StateError" 234)) (some (.str "StateError" 242))) := X' _ _ (by k_is)
  have hI : Looks (model PR w) s.heap (typeLookup (.ref 56) "__init__") (some (.ref 28)) := looks_findIn X' (by k_is)
  refine own_call (C := 56) (rest := [.str x t]) hC (by show 1 ≤ sizeLine; rw [sizeLine_eq]; omega) hI (X' _ _ (by k_is)) rfl fun h' e hm => ?_
  obtain ⟨t1, he, htn, ht⟩ := hm.there
  have he0 : h₀.get? e = none := by
    cases q : h₀.get? e with
    | none => rfl
    | some o => have z := hm.new; rw [F.keep _ _ q] at z; cases z
  have F1 : Fr h₀ L h' m := F.keeps hm.keeps
  have heL : e ≠ L := by
    intro q
    obtain ⟨o, es, ep, ho, _⟩ := F.ns
    have z := hm.new
    rw [q, ho] at z; cases z
  have N1 : News h₀ L h' ((e, excOf 56 t1) :: news) := fun p hp => by
    rcases List.mem_cons.mp hp with rfl | hp
    · exact ⟨he, heL, he0⟩
    · exact ⟨hm.keeps _ _ (N p hp).1, (N p hp).2⟩
  have offe : ∀ p ∈ news, p.1 ≠ e := fun p hp q => by
    have z := hm.new
    rw [← q, (N p hp).1] at z; cases z
  refine wpAny_call ?_
  k_dflt ktr_enter
  k_steps
  exact ret e _ _ _ _ (by k_asm) (by k_asm) rfl rfl (off_cons (by assumption) (by assumption)) (by assumption)
end
end Mine
namespace Mine
theorem rowsP8_0 : True := by
  k_with_none
  k_with "mine down" => (first | exact fun _ h => h | (refine dn ?_; walk_at "mine down"))
  k_with "k_ne" => (first | with_reducible assumption | exact Ne.symm (by with_reducible assumption) | exact ltm_ne (by with_reducible assumption) (by k_mem) | exact ltm_en (by with_reducible assumption) (by k_mem) | exact Nat.ne_of_lt (by with_reducible assumption) | exact Nat.ne_of_gt (by with_reducible assumption) | exact ltm_c1 (by with_reducible assumption) (by k_mem) | exact ltm_d1 (by with_reducible assumption) (by k_mem) | exact ltm_c2 (by with_reducible assumption) (by k_mem) | exact ltm_d2 (by with_reducible assumption) (by k_mem) | exact ltm_c3 (by with_reducible assumption) (by k_mem) | exact ltm_d3 (by with_reducible assumption) (by k_mem) | exact ltm_c4 (by with_reducible assumption) (by k_mem) | exact ltm_d4 (by with_reducible assumption) (by k_mem) | exact ltm_c5 (by with_reducible assumption) (by k_mem) | exact ltm_d5 (by with_reducible assumption) (by k_mem) | (refine neN ?_; (try dsimp only); omega))
  k_with "k_all" => (first | exact ltm_all (by with_reducible assumption) (by walk_at "mine down") | exact ltm_a1 (by with_reducible assumption) (by walk_at "mine down") | exact ltm_a2 (by with_reducible assumption) (by walk_at "mine down") | exact ltm_a3 (by with_reducible assumption) (by walk_at "mine down") | exact ltm_a4 (by with_reducible assumption) (by walk_at "mine down") | exact ltm_a5 (by with_reducible assumption) (by walk_at "mine down"))
  trivial
theorem fill8 : (hd.heap_1 = hd.heap_1) ∧ (PySem.Challenge.rw_pb0538_01 = PySem.Challenge.rw_pb0538_01) := by k_fill; exact ⟨rfl, rfl⟩
theorem rowsP8_1 : True := by
  k_with "compareOp In int ref" => (k_here; k_dflt (first | refine in_hit (by k_tabat) (by assumption) ?_ | refine in_miss (by k_tabat) (by assumption) ?_))
  k_with "compareOp NotIn int ref" => (k_here; k_dflt (first | refine notin_hit (by k_tabat) (by assumption) ?_ | refine notin_miss (by k_tabat) (by assumption) ?_))
  k_with "mine cx" => exact ⟨by k_asm, by k_asm, by k_asm, by k_asm, by k_asm, by first | exact rfl | assumption⟩
  k_with "mine sub" => (first | exact fun _ h => h | exact sub_skip (fun _ h => h) | exact sub_skip (sub_skip (fun _ h => h)) | exact sub_skip (sub_skip (sub_skip (fun _ h => h))) | exact sub_skip (sub_skip (sub_skip (sub_skip (fun _ h => h)))) | exact sub_skip (sub_skip (sub_skip (sub_skip (sub_skip (fun _ h => h))))) | exact sub_skip (sub_skip (sub_skip (sub_skip (sub_skip (sub_skip (fun _ h => h)))))) | exact sub_keep (sub_skip (fun _ h => h)) | exact sub_keep (sub_skip (sub_skip (fun _ h => h))) | exact sub_keep (sub_skip (sub_skip (sub_skip (fun _ h => h)))) | exact sub_keep (sub_skip (sub_skip (sub_skip (sub_skip (fun _ h => h))))) | exact sub_keep (sub_skip (sub_skip (sub_skip (sub_skip (sub_skip (fun _ h => h)))))) | exact sub_keep (sub_skip (sub_skip (sub_skip (sub_skip (sub_skip (sub_skip (fun _ h => h))))))))
  k_with "mine priv" => (first | assumption | exact PrivAt.mono (by assumption) (by walk_at "mine sub"))
  k_with "mine dict" => (first | assumption | exact DictAt.mono (by assumption) (by walk_at "mine sub"))
  k_with "mine room" => ((try simp only [depth_under_make, depth_under_kw, depth_in1, depth_deeper, depth_caller, units_in1, units_deeper, Around.mark_units, units_caller]); (try dsimp only [ktrTop]); omega)
  k_with "call ref" => (k_here; (with_reducible show wpAny _ _ (call (Value.ref 119) _) _ _ _); k_dflt (refine' c_kind_of ?zqcx ?zqd ?zqu ?zqp ?zqK _ _ ?_; (case zqcx => walk_at "mine cx"); (case zqd => walk_at "mine room"); (case zqu => walk_at "mine room"); (case zqp => walk_at "mine priv"); (case zqK => walk_at "mine dict")); intro r' h' tk' F' N' hr'; obtain ⟨t', er'⟩ := hr'; subst er'; (try dsimp only))
  k_with "call ref" => (k_here; (with_reducible show wpAny _ _ (call (Value.ref 138) _) _ _ _); k_dflt (refine' c_vfl ?zqcx ?zqd ?zqu ?zqp ?zqK _ _ ?_; (case zqcx => walk_at "mine cx"); (case zqd => walk_at "mine room"); (case zqu => walk_at "mine room"); (case zqp => walk_at "mine priv"); (case zqK => walk_at "mine dict")); intro r' h' tk' F' N' hr'; obtain ⟨t', er'⟩ := hr'; subst er'; (try dsimp only))
  k_with "mine fin" => (first | rfl | ((try dsimp only [vflV]); split <;> first | rfl | contradiction | (split <;> first | rfl | contradiction)))
  k_with "mine led" => (first | k_asm | exact drop1 (by k_asm) | exact drop2 (by k_asm) | exact drop3 (by k_asm) | exact drop4 (by k_asm))
  k_with "mine enterC" => (refine' code_defC ?zqk1 ?zqk2 ?zqk3 ?zqk4 ?zqk5 ?zqkA ?zqkF ?zqkK ?zqk6 ?zqk7 ?zqk8 ?zqk9 ?zqkB ?zqkD ?_ ?zqc2 ?zqc3 ?zqc4; (case zqkA => exact rfl); (case zqkF => exact rfl); (case zqkK => assumption); (case zqk1 => k_asm); (case zqk2 => k_asm); (case zqk3 => k_asm); (case zqk4 => k_asm); (case zqk5 => k_asm); (case zqk6 => k_is); (case zqk7 => k_is); (case zqk8 => ktr_room); (case zqk9 => exact BindsTo.of_eq rfl); (case zqkB => exact rfl); (case zqkD => decide +kernel); (case zqc2 => exact rfl); (case zqc3 => exact rfl); (case zqc4 => exact rfl); k_whole; intro g' L' h' tk' cells' FG' F' N' Y' B' X' T' l1; (try k_lt l1); k_cells Y'; (try simp only [List.cons_append, List.nil_append] at N'); (try dsimp only); (try k_fold))
  k_with "k_all" => assumption
  k_with "k_mem" => (first | exact List.Mem.head _ | ktr_member | (refine' List.mem_cons_of_mem _ ?_; k_mem))
  k_with "setItem ref int" => (k_here; k_dflt (refine' setItem_K PyProof.V.same_int (intKind_is _ _ _ _) ?zqv ?zqF ?zqN ?zqU ?zqd ?zqf ?_ ?zqz; (case zqF => k_asm); (case zqN => k_asm); (case zqU => k_updF); (case zqd => k_asm); (case zqf => k_asm); (case zqz => first | exact len_II (by assumption) | exact len_IS (by assumption)); (case zqv => k_flat)); intro h' o' F' N' hd' hf'; (try dsimp only at N'); (try k_sweep))
  k_with "call ref" => (k_here; (with_reducible show wpAny _ _ (call (Value.ref 119) _) _ _ _); k_dflt (refine' c_kind_is ?zqcx ?zqd ?zqu ?zqp ?zqK _ _ _ ?zqe ?_; (case zqcx => walk_at "mine cx"); (case zqd => walk_at "mine room"); (case zqu => walk_at "mine room"); (case zqp => walk_at "mine priv"); (case zqK => walk_at "mine dict"); (case zqe => assumption)); intro r' h' tk' F' N' hr'; obtain ⟨t', er'⟩ := hr'; subst er'; (try dsimp only))
  k_with "call ref" => (k_here; (with_reducible show wpAny _ _ (call (Value.ref 91) _) _ _ _); k_dflt (refine' c_need_plain ?zqcx ?zqd ?zqu ?zqp ?zqK _ _ ?zqe ?_; (case zqcx => walk_at "mine cx"); (case zqd => walk_at "mine room"); (case zqu => walk_at "mine room"); (case zqp => walk_at "mine priv"); (case zqK => walk_at "mine dict"); (case zqe => assumption)); intro r' h' tk' F' N' hr'; subst hr'; (try dsimp only))
  k_with "call ref" => (k_here; (with_reducible show wpAny _ _ (call (Value.ref 112) _) _ _ _); k_dflt (refine' c_need_free ?zqcx ?zqd ?zqu ?zqp ?zqH ?zqM _ _ ?zqe ?zqe2 ?_; (case zqcx => walk_at "mine cx"); (case zqd => walk_at "mine room"); (case zqu => walk_at "mine room"); (case zqp => walk_at "mine priv"); (case zqH => walk_at "mine dict"); (case zqM => walk_at "mine dict"); (case zqe => assumption); (case zqe2 => assumption)); intro r' h' tk' F' N' hr'; subst hr'; (try dsimp only))
  k_with "call builtin:sorted" => (k_here; (with_reducible show wpAny _ _ (call (Value.builtin "sorted") [Value.ref _]) _ _ _); k_dflt (refine sortD (by rfl) (by k_asm) (by k_asm) (by k_tabat) (by omega) ?_); intro D' h' tk' vs' k' F' N' l1 hi'; (try k_lt l1))
  k_with "mine fresh" => (first | assumption | exact ltm_all (by with_reducible assumption) (by walk_at "mine down") | exact lt_ne (by assumption) | exact allLt_ne (by k_asm) | exact off1_mem (by k_asm) | (rename _ ∧ _ => o9; first | exact off1_mem o9.2 | exact off1_mem o9.2.2 | exact off1_mem o9.2.2.2 | exact allLt_ne o9.2 | exact allLt_ne o9.2.2 | exact allLt_ne o9.2.2.2))
  k_with "binaryOp Add ref ref" => (k_here; (with_reducible show wpAny _ _ (binaryOp _ (Value.ref _) (Value.ref _)) _ _ _); k_dflt (refine' kmk_add_ints ?zqF ?zqN ?zqa ?zqb ?zqi ?zqj ?_ ?zqz; (case zqF => k_asm); (case zqN => k_asm); (case zqa => kmk_list); (case zqb => exact ⟨_, (News.get (by k_asm) (by k_mem)), rfl, _, rfl⟩); (case zqi => l_ints); (case zqj => assumption); (case zqz => assumption)); intro D' ws' h' F' N' l1 hI'; (try k_lt l1))
  k_with "call builtin:sorted" => (k_here; (with_reducible show wpAny _ _ (call (Value.builtin "sorted") [Value.ref _]) _ _ _); k_dflt (refine sortL (by k_asm) (by k_asm) (by k_mem) (by assumption) (by assumption) ?_); intro D' h' tk' vs' k' F' N' l1 hi'; (try k_lt l1))
  k_with "call ref" => (k_here; (with_reducible show wpAny _ _ (call (Value.ref 124) _) _ _ _); k_dflt (refine' c_secondaries ?zqcx ?zqd ?zqu ?zqp ?zqK ?zqP ?zqz ?zqown _ _ ?_; (case zqcx => walk_at "mine cx"); (case zqd => walk_at "mine room"); (case zqu => walk_at "mine room"); (case zqp => walk_at "mine priv"); (case zqK => walk_at "mine dict"); (case zqP => walk_at "mine dict"); (case zqz => assumption); (case zqown => assumption)); intro D' h' tk' ys' k' F' N' l1 hi'; (try dsimp only))
  k_with "call builtin:Exception.__init__" => (k_here; k_dflt (refine' init_K ?zqF ?zqN ?zqo ?zqX ?zql ?_; (case zqF => k_asm); (case zqN => k_asm); (case zqo => assumption); (case zqX => k_asm); (case zql => k_is)); intro t' h' F' N' ne' nn')
  k_with "setAttr ref" => (k_here; k_dflt (refine' set_K ?zqF ?zqN ?zqo ?zqX ?zql ?zqs ?zqx ?_; (case zqF => k_asm); (case zqN => k_asm); (case zqo => exact off_cons (by assumption) (by assumption)); (case zqX => k_asm); (case zql => k_is); (case zqs => k_is); (case zqx => k_is)); intro dx' h' tk' F' N')
  k_with "getMethod type:Exception" => (k_here; refine' method_type (T := "Exception") (K := _root_.Mine.hd.heap_1 _) ?zqF ?zqX meta_Exc stub_Exc (cls_Exc _) ?zqh ?_; (case zqF => k_asm); (case zqX => k_asm); (case zqh => exact hand_Exc))
  trivial
section
variable {w : World} {mean : ExcName → Option Value} {mg mb : Str → Option Value} {dp un : Nat} {gd : Option (List Code)} {cn : Str} {cs : Scope} {a : Addr} {ccd : Value} {cl : List (Str × Addr)} {outer : List Env} {A₀ : Around} {base h₀ : Heap} {L : Addr} {m : Str → Option Value} {s : Shared} {news : List (Addr × Obj)} {Q E : Value → Shared → Prop}
  {P kd pd od md : Addr} {DK : List (Int × Str)} {DP DH DM : List (Int × Int)}



def RAt (E : Value → Shared → Prop) (v : Value) (s₁ : Shared) : Prop :=
  ∃ e oe C nm Nn k0 k2 k3 t2, v = .ref e ∧ s₁.heap.get? C = some (clsOf nm C Nn k0 k2 k3) ∧ s₁.heap.get? e = some oe ∧ oe.cls = .ref C ∧ oe.data = .fields #[.ref t2, .none, .none, .none, .bool false, .none] ∧ E (.ref e) s₁
theorem RAt.of {E : Value → Shared → Prop} {h₀ : Heap} {L : Addr} {m : Str → Option Value} {s₁ : Shared} {news : List (Addr × Obj)} {K : Frag} {e C Nn t2 : Addr} {oe : Obj} {nm : Str} {k0 k2 k3 : Option Value}
    (X₀ : K.In h₀) (F : Fr h₀ L s₁.heap m) (N : News h₀ L s₁.heap ((e, oe) :: news)) (hl : K.lookup C = some (clsOf nm C Nn k0 k2 k3)) (hc : oe.cls = .ref C) (hd : oe.data = .fields #[.ref t2, .none, .none, .none, .bool false, .none]) (h : E (.ref e) s₁) : RAt E (.ref e) s₁ :=
  ⟨e, oe, C, nm, Nn, k0, k2, k3, t2, rfl, X₀.keeps F.keep _ _ hl, (N _ (.head _)).1, hc, hd, h⟩
theorem own_raise {prog : Program} {A : Around} {E : Value → Shared → Prop} {s : Shared} {env : Env} {f : Expr} {args : List Expr} {cpos pos : Pos} {Q : Flow → Shared → Prop} (hh : A.handled = none)
    (h : wpAny (model prog w) A (eval (.Call f args [] cpos) env) (RAt E) E s) :
    wpAny (model prog w) A (exec (.Raise (some (.Call f args [] cpos)) none pos) env) Q E s := by
  rw [arm_exec_Raise]
  refine wpAny_bind (wpAny_standAt ?_)
  show wpAny _ A (raiseStmt env (some (eval (.Call f args [] cpos) env >>= fun v => standAt pos >>= fun _ => pure v)) none) _ _ _
  unfold raiseStmt
  refine wpAny_bind (wpAny_mono (wpAny_bind (wpAny_mono h (fun v s₃ h₃ => wpAny_bind (wpAny_standAt (wpAny_pure h₃))) fun _ _ x => x)) (fun v s₁ h₁ => ?_) fun _ _ x => x)
  obtain ⟨e, oe, C, nm, Nn, k0, k2, k3, t2, rfl, hC, he, hcls, hdt, hE⟩ := h₁
  obtain ⟨hp, g, d, tk, os⟩ := s₁
  obtain ⟨oc, od, odt, osl⟩ := oe
  dsimp only at hC he hcls hdt hE
  subst hcls hdt
  repeat (first | with_reducible refine wpAny_loadPart_at he ?_ | with_reducible refine wpAny_loadPart_at hC ?_ | (with_reducible refine wpAny_isSubtype_exc hC ?_; rw [bm_base]) | wp_step)
  exact wpAny_raiseNew_none hh hE

theorem kts_memX {name : Str} {scope : Scope} {L a b : Addr} {cd : Value} {cl : List (Str × Addr)} {outer : List Env} (hm : b ∈ (envX name scope L a cd cl :: outer).filterMap (·.frame)) : b = L ∨ b ∈ outer.filterMap (·.frame) := by
  obtain ⟨env, he, hf⟩ := List.mem_filterMap.mp hm
  rcases List.mem_cons.mp he with rfl | he
  · exact .inl (Option.some.inj hf).symm
  · exact .inr (List.mem_filterMap.mpr ⟨env, he, hf⟩)
theorem leave_own {M : Model} {A : Around} {E : Value → Shared → Prop} {s' : Shared} {base g : Heap} {outer : List Env} {L a e t : Addr} {m : Str → Option Value} {name : Str} {scope : Scope} {cd : Value} {cl : List (Str × Addr)} {Q : Unit → Shared → Prop} {news : List (Addr × Obj)}
    {oe : Obj} {v : Value} {C : Addr} (K : Below A base outer g) (F : Fr g L s'.heap m) (N : News g L s'.heap ((e, oe) :: (t, tup1 v) :: news)) (hcls : oe.cls = .ref C) (hd : oe.data = .fields #[.ref t, .none, .none, .none, .bool false, .none])
    (off : ∀ q ∈ (t, tup1 v) :: news, q.1 ≠ e) (offt : ∀ q ∈ news, q.1 ≠ t)
    (hQ : ∀ h', RaisedS base g outer e (.ref C) t [v] news h' → g.UpToSlots h' → Q () { s' with heap := h' }) (hk : scope.kind = .function := by rfl) :
    wpAny M (A.deeper (envX name scope L a cd cl)) (leaving (envX name scope L a cd cl) (.ref e)) Q E s' := by
  have K' := pushX (env := envX name scope L a cd cl) K F rfl hk
  obtain ⟨he, heL, he0⟩ := N _ (.head _)
  obtain ⟨ht, htL, ht0⟩ := N _ (.tail _ (.head _))
  have hin : ∀ env ∈ (envX name scope L a cd cl :: outer), ∀ b, env.frame = some b → b ∈ e :: t :: (envX name scope L a cd cl :: outer).filterMap (·.frame) := fun env he b hb => .tail _ (.tail _ (List.mem_filterMap.mpr ⟨env, he, hb⟩))
  have st : base.StaysIn (hideAll s'.heap (e :: t :: (envX name scope L a cd cl :: outer).filterMap (·.frame))) := fun b o q => hideAll_get _ (K'.stays b o q) fun hm => by
    rcases List.mem_cons.mp hm with rfl | hm
    · rw [fresh_of_stays K.stays he0] at q; cases q
    · rcases List.mem_cons.mp hm with rfl | hm
      · rw [fresh_of_stays K.stays ht0] at q; cases q
      · rw [(K'.frames.mem hm).1] at q; cases q
  have sg : ∀ b o, g.get? b = some o → b ∉ outer.filterMap (·.frame) → (hideAll s'.heap (e :: t :: (envX name scope L a cd cl :: outer).filterMap (·.frame))).get? b = some o := fun b o q nm => hideAll_get _ (F.keep b o q) fun hm => by
    rcases List.mem_cons.mp hm with rfl | hm
    · rw [he0] at q; cases q
    · rcases List.mem_cons.mp hm with rfl | hm
      · rw [ht0] at q; cases q
      · rcases kts_memX hm with z | z
        · rw [z, kts_self F] at q; cases q
        · exact nm z
  have hl : ∀ q ∈ news, (hideAll s'.heap (e :: t :: (envX name scope L a cd cl :: outer).filterMap (·.frame))).get? q.1 = some q.2 ∧ g.get? q.1 = none ∧ base.get? q.1 = none := fun q hq => by
    have Nq := N q (.tail _ (.tail _ hq))
    refine ⟨hideAll_get _ Nq.1 fun hm => ?_, Nq.2.2, fresh_of_stays K.stays Nq.2.2⟩
    rcases List.mem_cons.mp hm with z | hm
    · exact off q (.tail _ hq) z
    · rcases List.mem_cons.mp hm with z | hm
      · exact offt q hq z
      · obtain ⟨env, he, hf⟩ := List.mem_filterMap.mp hm
        rcases List.mem_cons.mp he with rfl | he
        · exact Nq.2.1 (Option.some.inj hf).symm
        · obtain ⟨o, ho, _⟩ := (K.frames.mem (List.mem_filterMap.mpr ⟨env, he, hf⟩)).2
          rw [Nq.2.2] at ho; cases ho
  refine wpAny_leaving_firstW (a0 := .ref t) K'.stack (funFrames_hide K'.frames hin) rfl he (fun b o q => of_hideAll _ q) (hideAll_none _ (.head _)) hd rfl rfl fun h' hL => ?_
  obtain ⟨k1, ⟨_, _, k2⟩, k3, k4⟩ := hL
  rw [hcls] at k3
  refine hQ h' ⟨⟨_, st, sg, hl, ⟨k1, hideAll_none _ (.head _), k2, k3⟩, hideAll_none _ (.tail _ (.head _))⟩, Heap.TupAt.of_slots ⟨_, _, ht, rfl, rfl⟩ k4⟩ ((Heap.UpToSlots.of_keeps F.keep).trans k4)
theorem leave_onX {M : Model} {A : Around} {E : Value → Shared → Prop} {s' : Shared} {base g g₂ : Heap} {outer : List Env} {L a e t : Addr} {m : Str → Option Value} {name : Str} {scope : Scope} {cd : Value} {cl : List (Str × Addr)} {Q : Unit → Shared → Prop} {news : List (Addr × Obj)} {cls : Value} {vs : List Value}
    (K : Below A base outer g) (F : Fr g L g₂ m) (R : RaisedS base g₂ (envX name scope L a cd cl :: outer) e cls t vs news s'.heap) (hsm : g₂.UpToSlots s'.heap)
    (hQ : ∀ h', RaisedS base g outer e cls t vs news h' → g.UpToSlots h' → Q () { s' with heap := h' }) :
    wpAny M (A.deeper (envX name scope L a cd cl)) (leaving (envX name scope L a cd cl) (.ref e)) Q E s' := by
  obtain ⟨⟨B, hB, hBG, hl, hfl, hnew⟩, htup⟩ := R
  exact wpAny_leaves_onW (Around.frames_deeper K.stack) rfl hfl fun h' x1 x2 =>
    hQ h' ⟨⟨B, hB, fun b o q nm => hBG b o (F.keep b o q) (fun hm => by
      rcases kts_memX hm with z | z
      · rw [z, kts_self F] at q
        cases q
      · exact nm z), fun q hq => ⟨(hl q hq).1, kts_none F.keep (hl q hq).2.1, (hl q hq).2.2⟩, x1, hnew⟩, htup.of_slots x2⟩ ((Heap.UpToSlots.of_keeps F.keep).trans (hsm.trans x2))
end
end Mine
namespace Mine
theorem rowsP9_0 : True := by
  k_with_none
  k_with "mine down" => (first | exact fun _ h => h | (refine dn ?_; walk_at "mine down"))
  k_with "k_ne" => (first | with_reducible assumption | exact Ne.symm (by with_reducible assumption) | exact ltm_ne (by with_reducible assumption) (by k_mem) | exact ltm_en (by with_reducible assumption) (by k_mem) | exact Nat.ne_of_lt (by with_reducible assumption) | exact Nat.ne_of_gt (by with_reducible assumption) | exact ltm_c1 (by with_reducible assumption) (by k_mem) | exact ltm_d1 (by with_reducible assumption) (by k_mem) | exact ltm_c2 (by with_reducible assumption) (by k_mem) | exact ltm_d2 (by with_reducible assumption) (by k_mem) | exact ltm_c3 (by with_reducible assumption) (by k_mem) | exact ltm_d3 (by with_reducible assumption) (by k_mem) | exact ltm_c4 (by with_reducible assumption) (by k_mem) | exact ltm_d4 (by with_reducible assumption) (by k_mem) | exact ltm_c5 (by with_reducible assumption) (by k_mem) | exact ltm_d5 (by with_reducible assumption) (by k_mem) | (refine neN ?_; (try dsimp only); omega))
  k_with "k_all" => (first | exact ltm_all (by with_reducible assumption) (by walk_at "mine down") | exact ltm_a1 (by with_reducible assumption) (by walk_at "mine down") | exact ltm_a2 (by with_reducible assumption) (by walk_at "mine down") | exact ltm_a3 (by with_reducible assumption) (by walk_at "mine down") | exact ltm_a4 (by with_reducible assumption) (by walk_at "mine down") | exact ltm_a5 (by with_reducible assumption) (by walk_at "mine down"))
  trivial
theorem fill9 : (hd.heap_1 = hd.heap_1) ∧ (PySem.Challenge.rw_pb0538_01 = PySem.Challenge.rw_pb0538_01) := by k_fill; exact ⟨rfl, rfl⟩
theorem rowsP9_1 : True := by
  k_with "compareOp In int ref" => (k_here; k_dflt (first | refine in_hit (by k_tabat) (by assumption) ?_ | refine in_miss (by k_tabat) (by assumption) ?_))
  k_with "compareOp NotIn int ref" => (k_here; k_dflt (first | refine notin_hit (by k_tabat) (by assumption) ?_ | refine notin_miss (by k_tabat) (by assumption) ?_))
  k_with "mine cx" => exact ⟨by k_asm, by k_asm, by k_asm, by k_asm, by k_asm, by first | exact rfl | assumption⟩
  k_with "mine sub" => (first | exact fun _ h => h | exact sub_skip (fun _ h => h) | exact sub_skip (sub_skip (fun _ h => h)) | exact sub_skip (sub_skip (sub_skip (fun _ h => h))) | exact sub_skip (sub_skip (sub_skip (sub_skip (fun _ h => h)))) | exact sub_skip (sub_skip (sub_skip (sub_skip (sub_skip (fun _ h => h))))) | exact sub_skip (sub_skip (sub_skip (sub_skip (sub_skip (sub_skip (fun _ h => h)))))) | exact sub_keep (sub_skip (fun _ h => h)) | exact sub_keep (sub_skip (sub_skip (fun _ h => h))) | exact sub_keep (sub_skip (sub_skip (sub_skip (fun _ h => h)))) | exact sub_keep (sub_skip (sub_skip (sub_skip (sub_skip (fun _ h => h))))) | exact sub_keep (sub_skip (sub_skip (sub_skip (sub_skip (sub_skip (fun _ h => h)))))) | exact sub_keep (sub_skip (sub_skip (sub_skip (sub_skip (sub_skip (sub_skip (fun _ h => h))))))))
  k_with "mine priv" => (first | assumption | exact PrivAt.mono (by assumption) (by walk_at "mine sub"))
  k_with "mine dict" => (first | assumption | exact DictAt.mono (by assumption) (by walk_at "mine sub"))
  k_with "mine room" => ((try simp only [depth_under_make, depth_under_kw, depth_in1, depth_deeper, depth_caller, units_in1, units_deeper, Around.mark_units, units_caller]); (try dsimp only [ktrTop]); omega)
  k_with "call ref" => (k_here; (with_reducible show wpAny _ _ (call (Value.ref 119) _) _ _ _); k_dflt (refine' c_kind_of ?zqcx ?zqd ?zqu ?zqp ?zqK _ _ ?_; (case zqcx => walk_at "mine cx"); (case zqd => walk_at "mine room"); (case zqu => walk_at "mine room"); (case zqp => walk_at "mine priv"); (case zqK => walk_at "mine dict")); intro r' h' tk' F' N' hr'; obtain ⟨t', er'⟩ := hr'; subst er'; (try dsimp only))
  k_with "call ref" => (k_here; (with_reducible show wpAny _ _ (call (Value.ref 138) _) _ _ _); k_dflt (refine' c_vfl ?zqcx ?zqd ?zqu ?zqp ?zqK _ _ ?_; (case zqcx => walk_at "mine cx"); (case zqd => walk_at "mine room"); (case zqu => walk_at "mine room"); (case zqp => walk_at "mine priv"); (case zqK => walk_at "mine dict")); intro r' h' tk' F' N' hr'; obtain ⟨t', er'⟩ := hr'; subst er'; (try dsimp only))
  k_with "mine fin" => (first | rfl | ((try dsimp only [vflV]); split <;> first | rfl | contradiction | (split <;> first | rfl | contradiction)))
  k_with "mine led" => (first | k_asm | exact drop1 (by k_asm) | exact drop2 (by k_asm) | exact drop3 (by k_asm) | exact drop4 (by k_asm))
  k_with "mine enterC" => (refine' code_defC ?zqk1 ?zqk2 ?zqk3 ?zqk4 ?zqk5 ?zqkA ?zqkF ?zqkK ?zqk6 ?zqk7 ?zqk8 ?zqk9 ?zqkB ?zqkD ?_ ?zqc2 ?zqc3 ?zqc4; (case zqkA => exact rfl); (case zqkF => exact rfl); (case zqkK => assumption); (case zqk1 => k_asm); (case zqk2 => k_asm); (case zqk3 => k_asm); (case zqk4 => k_asm); (case zqk5 => k_asm); (case zqk6 => k_is); (case zqk7 => k_is); (case zqk8 => ktr_room); (case zqk9 => exact BindsTo.of_eq rfl); (case zqkB => exact rfl); (case zqkD => decide +kernel); (case zqc2 => exact rfl); (case zqc3 => exact rfl); (case zqc4 => exact rfl); k_whole; intro g' L' h' tk' cells' FG' F' N' Y' B' X' T' l1; (try k_lt l1); k_cells Y'; (try simp only [List.cons_append, List.nil_append] at N'); (try dsimp only); (try k_fold))
  k_with "k_all" => assumption
  k_with "k_mem" => (first | exact List.Mem.head _ | ktr_member | (refine' List.mem_cons_of_mem _ ?_; k_mem))
  k_with "setItem ref int" => (k_here; k_dflt (refine' setItem_K PyProof.V.same_int (intKind_is _ _ _ _) ?zqv ?zqF ?zqN ?zqU ?zqd ?zqf ?_ ?zqz; (case zqF => k_asm); (case zqN => k_asm); (case zqU => k_updF); (case zqd => k_asm); (case zqf => k_asm); (case zqz => first | exact len_II (by assumption) | exact len_IS (by assumption)); (case zqv => k_flat)); intro h' o' F' N' hd' hf'; (try dsimp only at N'); (try k_sweep))
  k_with "call ref" => (k_here; (with_reducible show wpAny _ _ (call (Value.ref 119) _) _ _ _); k_dflt (refine' c_kind_is ?zqcx ?zqd ?zqu ?zqp ?zqK _ _ _ ?zqe ?_; (case zqcx => walk_at "mine cx"); (case zqd => walk_at "mine room"); (case zqu => walk_at "mine room"); (case zqp => walk_at "mine priv"); (case zqK => walk_at "mine dict"); (case zqe => assumption)); intro r' h' tk' F' N' hr'; obtain ⟨t', er'⟩ := hr'; subst er'; (try dsimp only))
  k_with "call ref" => (k_here; (with_reducible show wpAny _ _ (call (Value.ref 91) _) _ _ _); k_dflt (refine' c_need_plain ?zqcx ?zqd ?zqu ?zqp ?zqK _ _ ?zqe ?_; (case zqcx => walk_at "mine cx"); (case zqd => walk_at "mine room"); (case zqu => walk_at "mine room"); (case zqp => walk_at "mine priv"); (case zqK => walk_at "mine dict"); (case zqe => assumption)); intro r' h' tk' F' N' hr'; subst hr'; (try dsimp only))
  k_with "call ref" => (k_here; (with_reducible show wpAny _ _ (call (Value.ref 112) _) _ _ _); k_dflt (refine' c_need_free ?zqcx ?zqd ?zqu ?zqp ?zqH ?zqM _ _ ?zqe ?zqe2 ?_; (case zqcx => walk_at "mine cx"); (case zqd => walk_at "mine room"); (case zqu => walk_at "mine room"); (case zqp => walk_at "mine priv"); (case zqH => walk_at "mine dict"); (case zqM => walk_at "mine dict"); (case zqe => assumption); (case zqe2 => assumption)); intro r' h' tk' F' N' hr'; subst hr'; (try dsimp only))
  k_with "call builtin:sorted" => (k_here; (with_reducible show wpAny _ _ (call (Value.builtin "sorted") [Value.ref _]) _ _ _); k_dflt (refine sortD (by rfl) (by k_asm) (by k_asm) (by k_tabat) (by omega) ?_); intro D' h' tk' vs' k' F' N' l1 hi'; (try k_lt l1))
  k_with "mine fresh" => (first | assumption | exact ltm_all (by with_reducible assumption) (by walk_at "mine down") | exact lt_ne (by assumption) | exact allLt_ne (by k_asm) | exact off1_mem (by k_asm) | (rename _ ∧ _ => o9; first | exact off1_mem o9.2 | exact off1_mem o9.2.2 | exact off1_mem o9.2.2.2 | exact allLt_ne o9.2 | exact allLt_ne o9.2.2 | exact allLt_ne o9.2.2.2))
  k_with "binaryOp Add ref ref" => (k_here; (with_reducible show wpAny _ _ (binaryOp _ (Value.ref _) (Value.ref _)) _ _ _); k_dflt (refine' kmk_add_ints ?zqF ?zqN ?zqa ?zqb ?zqi ?zqj ?_ ?zqz; (case zqF => k_asm); (case zqN => k_asm); (case zqa => kmk_list); (case zqb => exact ⟨_, (News.get (by k_asm) (by k_mem)), rfl, _, rfl⟩); (case zqi => l_ints); (case zqj => assumption); (case zqz => assumption)); intro D' ws' h' F' N' l1 hI'; (try k_lt l1))
  k_with "call builtin:sorted" => (k_here; (with_reducible show wpAny _ _ (call (Value.builtin "sorted") [Value.ref _]) _ _ _); k_dflt (refine sortL (by k_asm) (by k_asm) (by k_mem) (by assumption) (by assumption) ?_); intro D' h' tk' vs' k' F' N' l1 hi'; (try k_lt l1))
  k_with "call ref" => (k_here; (with_reducible show wpAny _ _ (call (Value.ref 124) _) _ _ _); k_dflt (refine' c_secondaries ?zqcx ?zqd ?zqu ?zqp ?zqK ?zqP ?zqz ?zqown _ _ ?_; (case zqcx => walk_at "mine cx"); (case zqd => walk_at "mine room"); (case zqu => walk_at "mine room"); (case zqp => walk_at "mine priv"); (case zqK => walk_at "mine dict"); (case zqP => walk_at "mine dict"); (case zqz => assumption); (case zqown => assumption)); intro D' h' tk' ys' k' F' N' l1 hi'; (try dsimp only))
  k_with "call builtin:Exception.__init__" => (k_here; k_dflt (refine' init_K ?zqF ?zqN ?zqo ?zqX ?zql ?_; (case zqF => k_asm); (case zqN => k_asm); (case zqo => assumption); (case zqX => k_asm); (case zql => k_is)); intro t' h' F' N' ne' nn')
  k_with "setAttr ref" => (k_here; k_dflt (refine' set_K ?zqF ?zqN ?zqo ?zqX ?zql ?zqs ?zqx ?_; (case zqF => k_asm); (case zqN => k_asm); (case zqo => exact off_cons (by assumption) (by assumption)); (case zqX => k_asm); (case zql => k_is); (case zqs => k_is); (case zqx => k_is)); intro dx' h' tk' F' N')
  k_with "getMethod type:Exception" => (k_here; refine' method_type (T := "Exception") (K := _root_.Mine.hd.heap_1 _) ?zqF ?zqX meta_Exc stub_Exc (cls_Exc _) ?zqh ?_; (case zqF => k_asm); (case zqX => k_asm); (case zqh => exact hand_Exc))
  k_with "exec Raise some none" => (k_here; k_dflt (refine own_raise (by rfl) ?_))
  k_with "call ref" => (k_here; (with_reducible show wpAny _ _ (call (Value.ref 44) _) _ _ _); k_dflt (refine' c_make44 ?zqcx ?zqd ?zqu _ _ ?_; (case zqcx => walk_at "mine cx"); (case zqd => walk_at "mine room"); (case zqu => walk_at "mine room")); intro e' oe' t2' h' tk' F' N' hc' hd' off' offt'; (try dsimp only))
  k_with "RAt" => (k_here; k_dflt (refine' RAt.of ?zqX ?zqF ?zqN ?zql ?zqc ?zqd ?_; (case zqX => k_asm); (case zqF => k_asm); (case zqN => k_asm); (case zqc => assumption); (case zqd => assumption); (case zql => k_is)))
  k_with "leaving ref" => (k_here; (refine' leave_own ?zqK ?zqF ?zqN ?zqc ?zqd ?zqo ?zqot ?_; (case zqK => assumption); (case zqF => assumption); (case zqN => k_asm); (case zqc => assumption); (case zqd => assumption); (case zqo => assumption); (case zqot => assumption); k_whole; intro h' R' U'; (try dsimp only at R' U' ⊢)))
  k_with "leaving ref" => (k_here; (refine' leave_onX ?zqK ?zqF ?zqR ?zqU ?_; (case zqR => assumption); (case zqF => assumption); (case zqK => assumption); (case zqU => assumption); k_whole; intro h' R' U'; (try dsimp only at R' U' ⊢)))
  trivial
section
variable {w : World} {mean : ExcName → Option Value} {mg mb : Str → Option Value} {dp un : Nat} {gd : Option (List Code)} {cn : Str} {cs : Scope} {a : Addr} {ccd : Value} {cl : List (Str × Addr)} {outer : List Env} {A₀ : Around} {base h₀ : Heap} {L : Addr} {m : Str → Option Value} {s : Shared} {news : List (Addr × Obj)} {Q E : Value → Shared → Prop}
  {P kd pd od md : Addr} {DK : List (Int × Str)} {DP DH DM : List (Int × Int)}





theorem raised_less {base G h : Heap} {l : List Env} {e t : Addr} {cls : Value} {vs : List Value} {a b : List (Addr × Obj)} (R : RaisedS base G l e cls t vs a h) (x : ∀ p ∈ b, p ∈ a) : RaisedS base G l e cls t vs b h := by
  obtain ⟨⟨B, h1, hg, h2, h3, h4⟩, h5⟩ := R
  exact ⟨⟨B, h1, hg, fun q hq => h2 q (x q hq), h3, h4⟩, h5⟩
/-- where a raise of the project's lands at a caller: either class, the ledger kept -/
abbrev Lands (base h₀ : Heap) (outer : List Env) (L : Addr) (m : Str → Option Value) (cn : Str) (cs : Scope) (a : Addr) (ccd : Value) (cl : List (Str × Addr)) (s : Shared) (E : Value → Shared → Prop) (news : List (Addr × Obj)) : Prop :=
  ∀ C e t2 vs g₂ h' tk', (C = 44 ∨ C = 56) → Fr h₀ L g₂ m → RaisedS base g₂ (envX cn cs L a ccd cl :: outer) e (.ref C) t2 vs news h' → g₂.UpToSlots h' → E (.ref e) { s with heap := h', toks := tk' }

theorem r_need_plain (cx : Cx w mean mg mb outer A₀ base h₀ L m cs s.heap news) (hd : dp + 4 ≤ 500) (hu : un + 40 ≤ 5000)
    (hp : PrivAt news P kd pd od md) (hK : DictAt w news kd (IS DK)) (v : Int) (t : Tok) (x : Str) (e1 : DK.lookup v = some x)
    (exc : Lands base h₀ outer L m cn cs a ccd cl s E news) :
    wpAny (model PR w) (ktrTop dp un gd cn cs L a ccd cl outer) (call (.ref 91) [.ref P, .int v t]) Q E s := by
  obtain ⟨B, F, X, N, T, hk⟩ := cx
  obtain ⟨dx, h1, h2, h3, h4, t1, t2, t3, t4, n, mP, mD⟩ := hp
  obtain ⟨oK, kvsK, mK, loK, dK, fK⟩ := hK
  have hl := lookS_some e1
  refine wpAny_call ?_
  k_dflt ktr_enter
  k_steps
  exact exc _ _ _ _ _ _ _ (.inl rfl) (by assumption) (by assumption) (by assumption)

theorem r_need_free (cx : Cx w mean mg mb outer A₀ base h₀ L m cs s.heap news) (hd : dp + 4 ≤ 500) (hu : un + 40 ≤ 5000)
    (hp : PrivAt news P kd pd od md) (hH : DictAt w news od (II DH)) (hM : DictAt w news md (II DM)) (p : Int) (t : Tok) (e1 : (∃ x, DH.lookup p = some x) ∨ (DH.lookup p = none ∧ ∃ x, DM.lookup p = some x))
    (exc : Lands base h₀ outer L m cn cs a ccd cl s E news) :
    wpAny (model PR w) (ktrTop dp un gd cn cs L a ccd cl outer) (call (.ref 112) [.ref P, .int p t]) Q E s := by
  obtain ⟨B, F, X, N, T, hk⟩ := cx
  obtain ⟨dx, h1, h2, h3, h4, t1, t2, t3, t4, n, mP, mD⟩ := hp
  obtain ⟨oH, kvsH, mH, loH, dH, fH⟩ := hH
  obtain ⟨oM, kvsM, mM, loM, dM, fM⟩ := hM
  rcases e1 with ⟨x, e1⟩ | ⟨e1, x, e2⟩
  · have hl := look_some e1
    refine wpAny_call ?_
    k_dflt ktr_enter
    k_steps
    exact exc _ _ _ _ _ _ _ (.inl rfl) (by assumption) (by assumption) (by assumption)
  · have hl := look_none e1
    have hl2 := look_some e2
    refine wpAny_call ?_
    k_dflt ktr_enter
    k_steps
    exact exc _ _ _ _ _ _ _ (.inl rfl) (by assumption) (by assumption) (by assumption)
theorem rowsP9_2 : True := by
  k_with "call ref" => (k_here; (with_reducible show wpAny _ _ (call (Value.ref 91) _) _ _ _); k_dflt (refine' r_need_plain ?zqcx ?zqd ?zqu ?zqp ?zqK _ _ _ ?zqe ?_; (case zqcx => walk_at "mine cx"); (case zqd => walk_at "mine room"); (case zqu => walk_at "mine room"); (case zqp => walk_at "mine priv"); (case zqK => walk_at "mine dict"); (case zqe => assumption)); intro C' e' t2' vs' g' h' tk' hC' F' R' U'; (try dsimp only))
  k_with "call ref" => (k_here; (with_reducible show wpAny _ _ (call (Value.ref 112) _) _ _ _); k_dflt (refine' r_need_free ?zqcx ?zqd ?zqu ?zqp ?zqH ?zqM _ _ ?zqe ?_; (case zqcx => walk_at "mine cx"); (case zqd => walk_at "mine room"); (case zqu => walk_at "mine room"); (case zqp => walk_at "mine priv"); (case zqH => walk_at "mine dict"); (case zqM => walk_at "mine dict"); (case zqe => assumption)); intro C' e' t2' vs' g' h' tk' hC' F' R' U'; (try dsimp only))
  trivial
theorem r_add_primary (cx : Cx w mean mg mb outer A₀ base h₀ L m cs s.heap news) (hd : dp + 5 ≤ 500) (hu : un + 50 ≤ 5000)
    (hp : PrivAt news P kd pd od md) (hK : DictAt w news kd (IS DK)) (v : Int) (t : Tok) (x : Str) (e1 : DK.lookup v = some x)
    (exc : Lands base h₀ outer L m cn cs a ccd cl s E news) :
    wpAny (model PR w) (ktrTop dp un gd cn cs L a ccd cl outer) (call (.ref 79) [.ref P, .int v t]) Q E s := by
  obtain ⟨B, F, X, N, T, hk⟩ := cx
  have hp0 := hp
  obtain ⟨dx, h1, h2, h3, h4, t1, t2, t3, t4, n, mP, mD⟩ := hp
  refine wpAny_call ?_
  k_dflt ktr_enter
  k_steps
  exact exc _ _ _ _ _ _ _ (by assumption) (by assumption) (by assumption) (by assumption)

theorem r_set_host (cx : Cx w mean mg mb outer A₀ base h₀ L m cs s.heap news) (hd : dp + 5 ≤ 500) (hu : un + 50 ≤ 5000)
    (hp : PrivAt news P kd pd od md) (hK : DictAt w news kd (IS DK)) (hH : DictAt w news od (II DH)) (hM : DictAt w news md (II DM)) (p v : Int) (t t' : Tok)
    (e1 : ((DK.lookup v).getD "plain" = "plain" ∨ (DK.lookup v).getD "plain" = "primary") ∨ ((DK.lookup v).getD "plain" = "isolated" ∧ ((∃ x, DH.lookup p = some x) ∨ (DH.lookup p = none ∧ ∃ x, DM.lookup p = some x))))
    (exc : Lands base h₀ outer L m cn cs a ccd cl s E news) :
    wpAny (model PR w) (ktrTop dp un gd cn cs L a ccd cl outer) (call (.ref 98) [.ref P, .int p t, .int v t']) Q E s := by
  obtain ⟨B, F, X, N, T, hk⟩ := cx
  have hp0 := hp
  obtain ⟨dx, h1, h2, h3, h4, t1, t2, t3, t4, n, mP, mD⟩ := hp
  rcases e1 with (ek | ek) | ⟨ek, e2⟩
  all_goals (
    refine wpAny_call ?_
    k_dflt ktr_enter
    k_steps)
  · exact exc _ _ _ _ _ _ _ (.inl rfl) (by assumption) (raised_less (by assumption) (by walk_at "mine sub")) (by assumption)
  · exact exc _ _ _ _ _ _ _ (.inl rfl) (by assumption) (raised_less (by assumption) (by walk_at "mine sub")) (by assumption)
  · exact exc _ _ _ _ _ _ _ (by assumption) (by assumption) (raised_less (by assumption) (by walk_at "mine sub")) (by assumption)

theorem r_set_prom (cx : Cx w mean mg mb outer A₀ base h₀ L m cs s.heap news) (hd : dp + 5 ≤ 500) (hu : un + 50 ≤ 5000)
    (hp : PrivAt news P kd pd od md) (hK : DictAt w news kd (IS DK)) (p v : Int) (t t' : Tok)
    (e1 : (DK.lookup v).getD "plain" = "plain" ∨ (DK.lookup v).getD "plain" = "isolated")
    (exc : Lands base h₀ outer L m cn cs a ccd cl s E news) :
    wpAny (model PR w) (ktrTop dp un gd cn cs L a ccd cl outer) (call (.ref 105) [.ref P, .int p t, .int v t']) Q E s := by
  obtain ⟨B, F, X, N, T, hk⟩ := cx
  have hp0 := hp
  obtain ⟨dx, h1, h2, h3, h4, t1, t2, t3, t4, n, mP, mD⟩ := hp
  rcases e1 with ek | ek
  all_goals (
    refine wpAny_call ?_
    k_dflt ktr_enter
    k_steps)
  · exact exc _ _ _ _ _ _ _ (.inl rfl) (by assumption) (raised_less (by assumption) (by walk_at "mine sub")) (by assumption)
  · exact exc _ _ _ _ _ _ _ (.inl rfl) (by assumption) (raised_less (by assumption) (by walk_at "mine sub")) (by assumption)
end
end Mine
namespace Mine
theorem rowsP10_0 : True := by
  k_with_none
  k_with "mine down" => (first | exact fun _ h => h | (refine dn ?_; walk_at "mine down"))
  k_with "k_ne" => (first | with_reducible assumption | exact Ne.symm (by with_reducible assumption) | exact ltm_ne (by with_reducible assumption) (by k_mem) | exact ltm_en (by with_reducible assumption) (by k_mem) | exact Nat.ne_of_lt (by with_reducible assumption) | exact Nat.ne_of_gt (by with_reducible assumption) | exact ltm_c1 (by with_reducible assumption) (by k_mem) | exact ltm_d1 (by with_reducible assumption) (by k_mem) | exact ltm_c2 (by with_reducible assumption) (by k_mem) | exact ltm_d2 (by with_reducible assumption) (by k_mem) | exact ltm_c3 (by with_reducible assumption) (by k_mem) | exact ltm_d3 (by with_reducible assumption) (by k_mem) | exact ltm_c4 (by with_reducible assumption) (by k_mem) | exact ltm_d4 (by with_reducible assumption) (by k_mem) | exact ltm_c5 (by with_reducible assumption) (by k_mem) | exact ltm_d5 (by with_reducible assumption) (by k_mem) | (refine neN ?_; (try dsimp only); omega))
  k_with "k_all" => (first | exact ltm_all (by with_reducible assumption) (by walk_at "mine down") | exact ltm_a1 (by with_reducible assumption) (by walk_at "mine down") | exact ltm_a2 (by with_reducible assumption) (by walk_at "mine down") | exact ltm_a3 (by with_reducible assumption) (by walk_at "mine down") | exact ltm_a4 (by with_reducible assumption) (by walk_at "mine down") | exact ltm_a5 (by with_reducible assumption) (by walk_at "mine down"))
  trivial
theorem fill10 : (hd.heap_1 = hd.heap_1) ∧ (PySem.Challenge.rw_pb0538_01 = PySem.Challenge.rw_pb0538_01) := by k_fill; exact ⟨rfl, rfl⟩
theorem rowsP10_1 : True := by
  k_with "compareOp In int ref" => (k_here; k_dflt (first | refine in_hit (by k_tabat) (by assumption) ?_ | refine in_miss (by k_tabat) (by assumption) ?_))
  k_with "compareOp NotIn int ref" => (k_here; k_dflt (first | refine notin_hit (by k_tabat) (by assumption) ?_ | refine notin_miss (by k_tabat) (by assumption) ?_))
  k_with "mine cx" => exact ⟨by k_asm, by k_asm, by k_asm, by k_asm, by k_asm, by first | exact rfl | assumption⟩
  k_with "mine sub" => (first | exact fun _ h => h | exact sub_skip (fun _ h => h) | exact sub_skip (sub_skip (fun _ h => h)) | exact sub_skip (sub_skip (sub_skip (fun _ h => h))) | exact sub_skip (sub_skip (sub_skip (sub_skip (fun _ h => h)))) | exact sub_skip (sub_skip (sub_skip (sub_skip (sub_skip (fun _ h => h))))) | exact sub_skip (sub_skip (sub_skip (sub_skip (sub_skip (sub_skip (fun _ h => h)))))) | exact sub_keep (sub_skip (fun _ h => h)) | exact sub_keep (sub_skip (sub_skip (fun _ h => h))) | exact sub_keep (sub_skip (sub_skip (sub_skip (fun _ h => h)))) | exact sub_keep (sub_skip (sub_skip (sub_skip (sub_skip (fun _ h => h))))) | exact sub_keep (sub_skip (sub_skip (sub_skip (sub_skip (sub_skip (fun _ h => h)))))) | exact sub_keep (sub_skip (sub_skip (sub_skip (sub_skip (sub_skip (sub_skip (fun _ h => h))))))))
  k_with "mine priv" => (first | assumption | exact PrivAt.mono (by assumption) (by walk_at "mine sub"))
  k_with "mine dict" => (first | assumption | exact DictAt.mono (by assumption) (by walk_at "mine sub"))
  k_with "mine room" => ((try simp only [depth_under_make, depth_under_kw, depth_in1, depth_deeper, depth_caller, units_in1, units_deeper, Around.mark_units, units_caller]); (try dsimp only [ktrTop]); omega)
  k_with "call ref" => (k_here; (with_reducible show wpAny _ _ (call (Value.ref 119) _) _ _ _); k_dflt (refine' c_kind_of ?zqcx ?zqd ?zqu ?zqp ?zqK _ _ ?_; (case zqcx => walk_at "mine cx"); (case zqd => walk_at "mine room"); (case zqu => walk_at "mine room"); (case zqp => walk_at "mine priv"); (case zqK => walk_at "mine dict")); intro r' h' tk' F' N' hr'; obtain ⟨t', er'⟩ := hr'; subst er'; (try dsimp only))
  k_with "call ref" => (k_here; (with_reducible show wpAny _ _ (call (Value.ref 138) _) _ _ _); k_dflt (refine' c_vfl ?zqcx ?zqd ?zqu ?zqp ?zqK _ _ ?_; (case zqcx => walk_at "mine cx"); (case zqd => walk_at "mine room"); (case zqu => walk_at "mine room"); (case zqp => walk_at "mine priv"); (case zqK => walk_at "mine dict")); intro r' h' tk' F' N' hr'; obtain ⟨t', er'⟩ := hr'; subst er'; (try dsimp only))
  k_with "mine fin" => (first | rfl | ((try dsimp only [vflV]); split <;> first | rfl | contradiction | (split <;> first | rfl | contradiction)))
  k_with "mine led" => (first | k_asm | exact drop1 (by k_asm) | exact drop2 (by k_asm) | exact drop3 (by k_asm) | exact drop4 (by k_asm))
  k_with "mine enterC" => (refine' code_defC ?zqk1 ?zqk2 ?zqk3 ?zqk4 ?zqk5 ?zqkA ?zqkF ?zqkK ?zqk6 ?zqk7 ?zqk8 ?zqk9 ?zqkB ?zqkD ?_ ?zqc2 ?zqc3 ?zqc4; (case zqkA => exact rfl); (case zqkF => exact rfl); (case zqkK => assumption); (case zqk1 => k_asm); (case zqk2 => k_asm); (case zqk3 => k_asm); (case zqk4 => k_asm); (case zqk5 => k_asm); (case zqk6 => k_is); (case zqk7 => k_is); (case zqk8 => ktr_room); (case zqk9 => exact BindsTo.of_eq rfl); (case zqkB => exact rfl); (case zqkD => decide +kernel); (case zqc2 => exact rfl); (case zqc3 => exact rfl); (case zqc4 => exact rfl); k_whole; intro g' L' h' tk' cells' FG' F' N' Y' B' X' T' l1; (try k_lt l1); k_cells Y'; (try simp only [List.cons_append, List.nil_append] at N'); (try dsimp only); (try k_fold))
  k_with "k_all" => assumption
  k_with "k_mem" => (first | exact List.Mem.head _ | ktr_member | (refine' List.mem_cons_of_mem _ ?_; k_mem))
  k_with "setItem ref int" => (k_here; k_dflt (refine' setItem_K PyProof.V.same_int (intKind_is _ _ _ _) ?zqv ?zqF ?zqN ?zqU ?zqd ?zqf ?_ ?zqz; (case zqF => k_asm); (case zqN => k_asm); (case zqU => k_updF); (case zqd => k_asm); (case zqf => k_asm); (case zqz => first | exact len_II (by assumption) | exact len_IS (by assumption)); (case zqv => k_flat)); intro h' o' F' N' hd' hf'; (try dsimp only at N'); (try k_sweep))
  k_with "call ref" => (k_here; (with_reducible show wpAny _ _ (call (Value.ref 119) _) _ _ _); k_dflt (refine' c_kind_is ?zqcx ?zqd ?zqu ?zqp ?zqK _ _ _ ?zqe ?_; (case zqcx => walk_at "mine cx"); (case zqd => walk_at "mine room"); (case zqu => walk_at "mine room"); (case zqp => walk_at "mine priv"); (case zqK => walk_at "mine dict"); (case zqe => assumption)); intro r' h' tk' F' N' hr'; obtain ⟨t', er'⟩ := hr'; subst er'; (try dsimp only))
  k_with "call ref" => (k_here; (with_reducible show wpAny _ _ (call (Value.ref 91) _) _ _ _); k_dflt (refine' c_need_plain ?zqcx ?zqd ?zqu ?zqp ?zqK _ _ ?zqe ?_; (case zqcx => walk_at "mine cx"); (case zqd => walk_at "mine room"); (case zqu => walk_at "mine room"); (case zqp => walk_at "mine priv"); (case zqK => walk_at "mine dict"); (case zqe => assumption)); intro r' h' tk' F' N' hr'; subst hr'; (try dsimp only))
  k_with "call ref" => (k_here; (with_reducible show wpAny _ _ (call (Value.ref 112) _) _ _ _); k_dflt (refine' c_need_free ?zqcx ?zqd ?zqu ?zqp ?zqH ?zqM _ _ ?zqe ?zqe2 ?_; (case zqcx => walk_at "mine cx"); (case zqd => walk_at "mine room"); (case zqu => walk_at "mine room"); (case zqp => walk_at "mine priv"); (case zqH => walk_at "mine dict"); (case zqM => walk_at "mine dict"); (case zqe => assumption); (case zqe2 => assumption)); intro r' h' tk' F' N' hr'; subst hr'; (try dsimp only))
  k_with "call builtin:sorted" => (k_here; (with_reducible show wpAny _ _ (call (Value.builtin "sorted") [Value.ref _]) _ _ _); k_dflt (refine sortD (by rfl) (by k_asm) (by k_asm) (by k_tabat) (by omega) ?_); intro D' h' tk' vs' k' F' N' l1 hi'; (try k_lt l1))
  k_with "mine fresh" => (first | assumption | exact ltm_all (by with_reducible assumption) (by walk_at "mine down") | exact lt_ne (by assumption) | exact allLt_ne (by k_asm) | exact off1_mem (by k_asm) | (rename _ ∧ _ => o9; first | exact off1_mem o9.2 | exact off1_mem o9.2.2 | exact off1_mem o9.2.2.2 | exact allLt_ne o9.2 | exact allLt_ne o9.2.2 | exact allLt_ne o9.2.2.2))
  k_with "binaryOp Add ref ref" => (k_here; (with_reducible show wpAny _ _ (binaryOp _ (Value.ref _) (Value.ref _)) _ _ _); k_dflt (refine' kmk_add_ints ?zqF ?zqN ?zqa ?zqb ?zqi ?zqj ?_ ?zqz; (case zqF => k_asm); (case zqN => k_asm); (case zqa => kmk_list); (case zqb => exact ⟨_, (News.get (by k_asm) (by k_mem)), rfl, _, rfl⟩); (case zqi => l_ints); (case zqj => assumption); (case zqz => assumption)); intro D' ws' h' F' N' l1 hI'; (try k_lt l1))
  k_with "call builtin:sorted" => (k_here; (with_reducible show wpAny _ _ (call (Value.builtin "sorted") [Value.ref _]) _ _ _); k_dflt (refine sortL (by k_asm) (by k_asm) (by k_mem) (by assumption) (by assumption) ?_); intro D' h' tk' vs' k' F' N' l1 hi'; (try k_lt l1))
  k_with "call ref" => (k_here; (with_reducible show wpAny _ _ (call (Value.ref 124) _) _ _ _); k_dflt (refine' c_secondaries ?zqcx ?zqd ?zqu ?zqp ?zqK ?zqP ?zqz ?zqown _ _ ?_; (case zqcx => walk_at "mine cx"); (case zqd => walk_at "mine room"); (case zqu => walk_at "mine room"); (case zqp => walk_at "mine priv"); (case zqK => walk_at "mine dict"); (case zqP => walk_at "mine dict"); (case zqz => assumption); (case zqown => assumption)); intro D' h' tk' ys' k' F' N' l1 hi'; (try dsimp only))
  k_with "call builtin:Exception.__init__" => (k_here; k_dflt (refine' init_K ?zqF ?zqN ?zqo ?zqX ?zql ?_; (case zqF => k_asm); (case zqN => k_asm); (case zqo => assumption); (case zqX => k_asm); (case zql => k_is)); intro t' h' F' N' ne' nn')
  k_with "setAttr ref" => (k_here; k_dflt (refine' set_K ?zqF ?zqN ?zqo ?zqX ?zql ?zqs ?zqx ?_; (case zqF => k_asm); (case zqN => k_asm); (case zqo => exact off_cons (by assumption) (by assumption)); (case zqX => k_asm); (case zql => k_is); (case zqs => k_is); (case zqx => k_is)); intro dx' h' tk' F' N')
  k_with "getMethod type:Exception" => (k_here; refine' method_type (T := "Exception") (K := _root_.Mine.hd.heap_1 _) ?zqF ?zqX meta_Exc stub_Exc (cls_Exc _) ?zqh ?_; (case zqF => k_asm); (case zqX => k_asm); (case zqh => exact hand_Exc))
  k_with "exec Raise some none" => (k_here; k_dflt (refine own_raise (by rfl) ?_))
  k_with "call ref" => (k_here; (with_reducible show wpAny _ _ (call (Value.ref 44) _) _ _ _); k_dflt (refine' c_make44 ?zqcx ?zqd ?zqu _ _ ?_; (case zqcx => walk_at "mine cx"); (case zqd => walk_at "mine room"); (case zqu => walk_at "mine room")); intro e' oe' t2' h' tk' F' N' hc' hd' off' offt'; (try dsimp only))
  k_with "RAt" => (k_here; k_dflt (refine' RAt.of ?zqX ?zqF ?zqN ?zql ?zqc ?zqd ?_; (case zqX => k_asm); (case zqF => k_asm); (case zqN => k_asm); (case zqc => assumption); (case zqd => assumption); (case zql => k_is)))
  k_with "leaving ref" => (k_here; (refine' leave_own ?zqK ?zqF ?zqN ?zqc ?zqd ?zqo ?zqot ?_; (case zqK => assumption); (case zqF => assumption); (case zqN => k_asm); (case zqc => assumption); (case zqd => assumption); (case zqo => assumption); (case zqot => assumption); k_whole; intro h' R' U'; (try dsimp only at R' U' ⊢)))
  k_with "call ref" => (k_here; (with_reducible show wpAny _ _ (call (Value.ref 91) _) _ _ _); k_dflt (refine' r_need_plain ?zqcx ?zqd ?zqu ?zqp ?zqK _ _ _ ?zqe ?_; (case zqcx => walk_at "mine cx"); (case zqd => walk_at "mine room"); (case zqu => walk_at "mine room"); (case zqp => walk_at "mine priv"); (case zqK => walk_at "mine dict"); (case zqe => assumption)); intro C' e' t2' vs' g' h' tk' hC' F' R' U'; (try dsimp only))
  k_with "call ref" => (k_here; (with_reducible show wpAny _ _ (call (Value.ref 112) _) _ _ _); k_dflt (refine' r_need_free ?zqcx ?zqd ?zqu ?zqp ?zqH ?zqM _ _ ?zqe ?_; (case zqcx => walk_at "mine cx"); (case zqd => walk_at "mine room"); (case zqu => walk_at "mine room"); (case zqp => walk_at "mine priv"); (case zqH => walk_at "mine dict"); (case zqM => walk_at "mine dict"); (case zqe => assumption)); intro C' e' t2' vs' g' h' tk' hC' F' R' U'; (try dsimp only))
  k_with "CompEnd" => (k_here; refine LCg.CompEnd.intro (by k_asm) (by k_asm) _ (by walk_at "mine sub") (by assumption) (by lcg_src) ?_)
  k_with "leaving ref" => (k_here; (refine' leave_onX ?zqK ?zqF ?zqR ?zqU ?_; (case zqR => assumption); (case zqF => assumption); (case zqK => assumption); (case zqU => assumption); k_whole; intro h' R' U'; (try dsimp only at R' U' ⊢)))
  k_with "call ref" => (k_here; (with_reducible show wpAny _ _ (call (Value.ref 56) _) _ _ _); k_dflt (refine' c_make56 ?zqcx ?zqd ?zqu _ _ ?_; (case zqcx => walk_at "mine cx"); (case zqd => walk_at "mine room"); (case zqu => walk_at "mine room")); intro e' oe' t2' h' tk' F' N' hc' hd' off' offt'; (try dsimp only))
  k_with "eval ListComp" => (k_here; lcf_look; k_dflt (refine LCg.ListComp_U (F₀ := by k_asm) (by with_unfolding_all rfl) (by decide) (by rfl) (by decide) (by rfl) ?_))
  trivial
section
variable {w : World} {mean : ExcName → Option Value} {mg mb : Str → Option Value} {dp un : Nat} {gd : Option (List Code)} {cn : Str} {cs : Scope} {a : Addr} {ccd : Value} {cl : List (Str × Addr)} {outer : List Env} {A₀ : Around} {base h₀ : Heap} {L : Addr} {m : Str → Option Value} {s : Shared} {news : List (Addr × Obj)} {Q E : Value → Shared → Prop}
  {P kd pd od md : Addr} {DK : List (Int × Str)} {DP DH DM : List (Int × Int)}

theorem ints0 {ys : List Value} (h : IntsAre ys []) : ys = [] := by cases h; rfl
theorem ints1 {ys : List Value} {a : Int} (h : IntsAre ys [a]) : ∃ u1, ys = [.int a u1] := by
  obtain ⟨⟩ | ⟨_, u1, h⟩ := h
  exact ⟨u1, by rw [ints0 h]⟩
theorem ints2 {ys : List Value} {a b : Int} (h : IntsAre ys [a, b]) : ∃ u1 u2, ys = [.int a u1, .int b u2] := by
  obtain ⟨⟩ | ⟨_, u1, h⟩ := h
  obtain ⟨u2, rfl⟩ := ints1 h
  exact ⟨u1, u2, rfl⟩
theorem ints3 {ys : List Value} {a b c : Int} (h : IntsAre ys [a, b, c]) : ∃ u1 u2 u3, ys = [.int a u1, .int b u2, .int c u3] := by
  obtain ⟨⟩ | ⟨_, u1, h⟩ := h
  obtain ⟨u2, u3, rfl⟩ := ints2 h
  exact ⟨u1, u2, u3, rfl⟩
theorem c_sec_lit0 (cx : Cx w mean mg mb outer A₀ base h₀ L m cs s.heap news) (hd : dp + 1 ≤ 500) (hu : un + 10 ≤ 5000)
    (hp : PrivAt news P kd pd od md) (hK : DictAt w news kd (IS DK)) (hP : DictAt w news pd (II DP)) (hz : DK.length < 63) (own : ∀ x ∈ DK.map Prod.fst, ∃ y, DP.lookup x = some y) (p : Int) (t : Tok)
    (e : secF DK DP p = [])
    (ret : ∀ D h' tk' k, Fr h₀ L h' m → News h₀ L h' ((D, listOf #[] k) :: news) → (∀ q ∈ news, @Ne Nat q.1 D) → Q (.ref D) { s with heap := h', toks := tk' }) :
    wpAny (model PR w) (ktrTop dp un gd cn cs L a ccd cl outer) (call (.ref 124) [.ref P, .int p t]) Q E s := by
  refine c_secondaries cx hd hu hp hK hP hz own p t fun D h' tk' ys k F' N' l1 hi => ?_
  rw [e] at hi
  obtain rfl := ints0 hi
  exact ret _ _ _ _  F' N' l1
theorem rowsP10_2 : True := by
  k_with "call ref" => (k_here; (with_reducible show wpAny _ _ (call (Value.ref 124) _) _ _ _); k_dflt (refine' c_sec_lit0 ?zqcx ?zqd ?zqu ?zqp ?zqK ?zqP ?zqz ?zqown _ _ ?zqe ?_; (case zqcx => walk_at "mine cx"); (case zqp => walk_at "mine priv"); (case zqK => walk_at "mine dict"); (case zqP => walk_at "mine dict"); (case zqe => with_reducible assumption); (case zqd => walk_at "mine room"); (case zqu => walk_at "mine room"); (case zqz => assumption); (case zqown => assumption)); intro D' h' tk' k'  F' N' l1; (try k_lt l1); (try dsimp only))
  trivial
theorem c_sec_lit1 (cx : Cx w mean mg mb outer A₀ base h₀ L m cs s.heap news) (hd : dp + 1 ≤ 500) (hu : un + 10 ≤ 5000)
    (hp : PrivAt news P kd pd od md) (hK : DictAt w news kd (IS DK)) (hP : DictAt w news pd (II DP)) (hz : DK.length < 63) (own : ∀ x ∈ DK.map Prod.fst, ∃ y, DP.lookup x = some y) (p : Int) (t : Tok)
    (e : secF DK DP p = [101])
    (ret : ∀ D h' tk' k u1, Fr h₀ L h' m → News h₀ L h' ((D, listOf #[.int 101 u1] k) :: news) → (∀ q ∈ news, @Ne Nat q.1 D) → Q (.ref D) { s with heap := h', toks := tk' }) :
    wpAny (model PR w) (ktrTop dp un gd cn cs L a ccd cl outer) (call (.ref 124) [.ref P, .int p t]) Q E s := by
  refine c_secondaries cx hd hu hp hK hP hz own p t fun D h' tk' ys k F' N' l1 hi => ?_
  rw [e] at hi
  obtain ⟨u1, rfl⟩ := ints1 hi
  exact ret _ _ _ _ _ F' N' l1
theorem rowsP10_3 : True := by
  k_with "call ref" => (k_here; (with_reducible show wpAny _ _ (call (Value.ref 124) _) _ _ _); k_dflt (refine' c_sec_lit1 ?zqcx ?zqd ?zqu ?zqp ?zqK ?zqP ?zqz ?zqown _ _ ?zqe ?_; (case zqcx => walk_at "mine cx"); (case zqp => walk_at "mine priv"); (case zqK => walk_at "mine dict"); (case zqP => walk_at "mine dict"); (case zqe => with_reducible assumption); (case zqd => walk_at "mine room"); (case zqu => walk_at "mine room"); (case zqz => assumption); (case zqown => assumption)); intro D' h' tk' k' u1' F' N' l1; (try k_lt l1); (try dsimp only))
  trivial
theorem c_sec_lit2 (cx : Cx w mean mg mb outer A₀ base h₀ L m cs s.heap news) (hd : dp + 1 ≤ 500) (hu : un + 10 ≤ 5000)
    (hp : PrivAt news P kd pd od md) (hK : DictAt w news kd (IS DK)) (hP : DictAt w news pd (II DP)) (hz : DK.length < 63) (own : ∀ x ∈ DK.map Prod.fst, ∃ y, DP.lookup x = some y) (p : Int) (t : Tok)
    (e : secF DK DP p = [101, 102])
    (ret : ∀ D h' tk' k u1 u2, Fr h₀ L h' m → News h₀ L h' ((D, listOf #[.int 101 u1, .int 102 u2] k) :: news) → (∀ q ∈ news, @Ne Nat q.1 D) → Q (.ref D) { s with heap := h', toks := tk' }) :
    wpAny (model PR w) (ktrTop dp un gd cn cs L a ccd cl outer) (call (.ref 124) [.ref P, .int p t]) Q E s := by
  refine c_secondaries cx hd hu hp hK hP hz own p t fun D h' tk' ys k F' N' l1 hi => ?_
  rw [e] at hi
  obtain ⟨u1, u2, rfl⟩ := ints2 hi
  exact ret _ _ _ _ _ _ F' N' l1
theorem rowsP10_4 : True := by
  k_with "call ref" => (k_here; (with_reducible show wpAny _ _ (call (Value.ref 124) _) _ _ _); k_dflt (refine' c_sec_lit2 ?zqcx ?zqd ?zqu ?zqp ?zqK ?zqP ?zqz ?zqown _ _ ?zqe ?_; (case zqcx => walk_at "mine cx"); (case zqp => walk_at "mine priv"); (case zqK => walk_at "mine dict"); (case zqP => walk_at "mine dict"); (case zqe => with_reducible assumption); (case zqd => walk_at "mine room"); (case zqu => walk_at "mine room"); (case zqz => assumption); (case zqown => assumption)); intro D' h' tk' k' u1' u2' F' N' l1; (try k_lt l1); (try dsimp only))
  trivial
theorem c_sec_lit3 (cx : Cx w mean mg mb outer A₀ base h₀ L m cs s.heap news) (hd : dp + 1 ≤ 500) (hu : un + 10 ≤ 5000)
    (hp : PrivAt news P kd pd od md) (hK : DictAt w news kd (IS DK)) (hP : DictAt w news pd (II DP)) (hz : DK.length < 63) (own : ∀ x ∈ DK.map Prod.fst, ∃ y, DP.lookup x = some y) (p : Int) (t : Tok)
    (e : secF DK DP p = [101, 102, 103])
    (ret : ∀ D h' tk' k u1 u2 u3, Fr h₀ L h' m → News h₀ L h' ((D, listOf #[.int 101 u1, .int 102 u2, .int 103 u3] k) :: news) → (∀ q ∈ news, @Ne Nat q.1 D) → Q (.ref D) { s with heap := h', toks := tk' }) :
    wpAny (model PR w) (ktrTop dp un gd cn cs L a ccd cl outer) (call (.ref 124) [.ref P, .int p t]) Q E s := by
  refine c_secondaries cx hd hu hp hK hP hz own p t fun D h' tk' ys k F' N' l1 hi => ?_
  rw [e] at hi
  obtain ⟨u1, u2, u3, rfl⟩ := ints3 hi
  exact ret _ _ _ _ _ _ _ F' N' l1
theorem rowsP10_5 : True := by
  k_with "call ref" => (k_here; (with_reducible show wpAny _ _ (call (Value.ref 124) _) _ _ _); k_dflt (refine' c_sec_lit3 ?zqcx ?zqd ?zqu ?zqp ?zqK ?zqP ?zqz ?zqown _ _ ?zqe ?_; (case zqcx => walk_at "mine cx"); (case zqp => walk_at "mine priv"); (case zqK => walk_at "mine dict"); (case zqP => walk_at "mine dict"); (case zqe => with_reducible assumption); (case zqd => walk_at "mine room"); (case zqu => walk_at "mine room"); (case zqz => assumption); (case zqown => assumption)); intro D' h' tk' k' u1' u2' u3' F' N' l1; (try k_lt l1); (try dsimp only))
  k_with "CompSrc" => (k_here; k_dflt (refine LCg.CompSrc.ledger (by rfl) (by k_asm) (by k_asm) (by k_mem) (by first | size_fits | exact Nat.le_of_ble_eq_true rfl) ?_; intro g'; first | (show LCg.CompRest _ _ _ _ _ _ _ _ _ _ _ _ _ _ _ 0 _ _ _) | (show LCg.CompRest _ _ _ _ _ _ _ _ _ _ _ _ _ _ _ 1 _ _ _) | (show LCg.CompRest _ _ _ _ _ _ _ _ _ _ _ _ _ _ _ 2 _ _ _) | (show LCg.CompRest _ _ _ _ _ _ _ _ _ _ _ _ _ _ _ 3 _ _ _) | (show LCg.CompRest _ _ _ _ _ _ _ _ _ _ _ _ _ _ _ 4 _ _ _) | (show LCg.CompRest _ _ _ _ _ _ _ _ _ _ _ _ _ _ _ 5 _ _ _) | (show LCg.CompRest _ _ _ _ _ _ _ _ _ _ _ _ _ _ _ 6 _ _ _) | (show LCg.CompRest _ _ _ _ _ _ _ _ _ _ _ _ _ _ _ 7 _ _ _) | (show LCg.CompRest _ _ _ _ _ _ _ _ _ _ _ _ _ _ _ 8 _ _ _) | (show LCg.CompRest _ _ _ _ _ _ _ _ _ _ _ _ _ _ _ 9 _ _ _)))
  k_with "CompRest" => (with_unfolding_all first
    | (refine LCg.CompRest.succ ?_; intro v' I' oI' C' oC' D' m' h' tk' E' hv' hC' hx' F' N' off' ne'; lcg_open hv')
    | refine LCg.CompRest.zero ?_)
  trivial
theorem c_add_com {rest : List (Addr × Obj)} {oK oP : Obj} {kvsK kvsP : List (Int × Value)} (cx : Cx w mean mg mb outer A₀ base h₀ L m cs s.heap ((kd, oK) :: (pd, oP) :: rest)) (hd : dp + 4 ≤ 500) (hu : un + 40 ≤ 5000)
    (hp : PrivAt rest P kd pd od md) (nkp : @Ne Nat kd pd) (npk : @Ne Nat pd kd) (nek : ∀ q ∈ rest, q.1 ≠ kd) (nep : ∀ q ∈ rest, q.1 ≠ pd) (loK : (kd == sysModules) = false) (loP : (pd == sysModules) = false)
    (dK : oK.IsDictOf (intKind PR w) kvsK) (fK : FlatPairs PyData.int kvsK (IS DK)) (hz : DK.length ≤ 50) (dP : oP.IsDictOf (intKind PR w) kvsP) (fP : FlatPairs PyData.int kvsP (II DP)) (hz2 : DP.length ≤ 50)
    (p v : Int) (t t' t3 : Tok) (e1 : DK.lookup v = none) (e2 : DP.lookup v = none) (ek : (DK.lookup p).getD "plain" = "primary")
    (ret : ∀ h' tk' oK' kvsK' oP' kvsP', Fr h₀ L h' m → News h₀ L h' ((kd, oK') :: (pd, oP') :: rest) → oK'.IsDictOf (intKind PR w) kvsK' → FlatPairs PyData.int kvsK' (IS (DK ++ [(v, ("community" : Str))])) →
      oP'.IsDictOf (intKind PR w) kvsP' → FlatPairs PyData.int kvsP' (II (DP ++ [(v, p)])) → Q .none { s with heap := h', toks := tk' }) :
    wpAny (model PR w) (ktrTop dp un gd cn cs L a ccd cl outer) (call (.ref 84) [.ref P, .int p t, .int v t', .str "community" t3]) Q E s := by
  obtain ⟨B, F, X, N, T, hk⟩ := cx
  have hp1 := hp.mono (news' := (kd, oK) :: (pd, oP) :: rest) fun _ h => List.mem_cons_of_mem _ (List.mem_cons_of_mem _ h)
  have hK1 : DictAt w ((kd, oK) :: (pd, oP) :: rest) kd (IS DK) := ⟨oK, kvsK, .head _, loK, dK, fK⟩
  obtain ⟨dx, h1, h2, h3, h4, t1, t2, t3, t4, n, mP, mD⟩ := hp
  have hz1 : DK.length ≤ 100 := by omega
  have hz2 : DP.length ≤ 100 := by omega
  have ep := putD_IS (x := ("community" : Str)) e1
  have ep2 := putD_II (x := p) e2
  have hapK : ∀ q ∈ (pd, oP) :: rest, q.1 ≠ kd := List.forall_mem_cons.mpr ⟨npk, nek⟩
  refine wpAny_call ?_
  k_dflt (walk_at "mine enterC")
  k_steps
  exact ret _ _ _ _ _ _ (by k_asm) (newsSub (by k_asm) (by walk_at "mine sub")) (by assumption) (by rw [← ep]; assumption) (by assumption) (by rw [← ep2]; assumption)

end
end Mine
namespace Mine
theorem rowsP11_0 : True := by
  k_with_none
  k_with "mine down" => (first | exact fun _ h => h | (refine dn ?_; walk_at "mine down"))
  k_with "k_ne" => (first | with_reducible assumption | exact Ne.symm (by with_reducible assumption) | exact ltm_ne (by with_reducible assumption) (by k_mem) | exact ltm_en (by with_reducible assumption) (by k_mem) | exact Nat.ne_of_lt (by with_reducible assumption) | exact Nat.ne_of_gt (by with_reducible assumption) | exact ltm_c1 (by with_reducible assumption) (by k_mem) | exact ltm_d1 (by with_reducible assumption) (by k_mem) | exact ltm_c2 (by with_reducible assumption) (by k_mem) | exact ltm_d2 (by with_reducible assumption) (by k_mem) | exact ltm_c3 (by with_reducible assumption) (by k_mem) | exact ltm_d3 (by with_reducible assumption) (by k_mem) | exact ltm_c4 (by with_reducible assumption) (by k_mem) | exact ltm_d4 (by with_reducible assumption) (by k_mem) | exact ltm_c5 (by with_reducible assumption) (by k_mem) | exact ltm_d5 (by with_reducible assumption) (by k_mem) | (refine neN ?_; (try dsimp only); omega))
  k_with "k_all" => (first | exact ltm_all (by with_reducible assumption) (by walk_at "mine down") | exact ltm_a1 (by with_reducible assumption) (by walk_at "mine down") | exact ltm_a2 (by with_reducible assumption) (by walk_at "mine down") | exact ltm_a3 (by with_reducible assumption) (by walk_at "mine down") | exact ltm_a4 (by with_reducible assumption) (by walk_at "mine down") | exact ltm_a5 (by with_reducible assumption) (by walk_at "mine down"))
  trivial
theorem fill11 : (hd.heap_1 = hd.heap_1) ∧ (PySem.Challenge.rw_pb0538_01 = PySem.Challenge.rw_pb0538_01) := by k_fill; exact ⟨rfl, rfl⟩
theorem rowsP11_1 : True := by
  k_with "compareOp In int ref" => (k_here; k_dflt (first | refine in_hit (by k_tabat) (by assumption) ?_ | refine in_miss (by k_tabat) (by assumption) ?_))
  k_with "compareOp NotIn int ref" => (k_here; k_dflt (first | refine notin_hit (by k_tabat) (by assumption) ?_ | refine notin_miss (by k_tabat) (by assumption) ?_))
  k_with "mine cx" => exact ⟨by k_asm, by k_asm, by k_asm, by k_asm, by k_asm, by first | exact rfl | assumption⟩
  k_with "mine sub" => (first | exact fun _ h => h | exact sub_skip (fun _ h => h) | exact sub_skip (sub_skip (fun _ h => h)) | exact sub_skip (sub_skip (sub_skip (fun _ h => h))) | exact sub_skip (sub_skip (sub_skip (sub_skip (fun _ h => h)))) | exact sub_skip (sub_skip (sub_skip (sub_skip (sub_skip (fun _ h => h))))) | exact sub_skip (sub_skip (sub_skip (sub_skip (sub_skip (sub_skip (fun _ h => h)))))) | exact sub_keep (sub_skip (fun _ h => h)) | exact sub_keep (sub_skip (sub_skip (fun _ h => h))) | exact sub_keep (sub_skip (sub_skip (sub_skip (fun _ h => h)))) | exact sub_keep (sub_skip (sub_skip (sub_skip (sub_skip (fun _ h => h))))) | exact sub_keep (sub_skip (sub_skip (sub_skip (sub_skip (sub_skip (fun _ h => h)))))) | exact sub_keep (sub_skip (sub_skip (sub_skip (sub_skip (sub_skip (sub_skip (fun _ h => h))))))))
  k_with "mine priv" => (first | assumption | exact PrivAt.mono (by assumption) (by walk_at "mine sub"))
  k_with "mine dict" => (first | assumption | exact DictAt.mono (by assumption) (by walk_at "mine sub"))
  k_with "mine room" => ((try simp only [depth_under_make, depth_under_kw, depth_in1, depth_deeper, depth_caller, units_in1, units_deeper, Around.mark_units, units_caller]); (try dsimp only [ktrTop]); omega)
  k_with "call ref" => (k_here; (with_reducible show wpAny _ _ (call (Value.ref 119) _) _ _ _); k_dflt (refine' c_kind_of ?zqcx ?zqd ?zqu ?zqp ?zqK _ _ ?_; (case zqcx => walk_at "mine cx"); (case zqd => walk_at "mine room"); (case zqu => walk_at "mine room"); (case zqp => walk_at "mine priv"); (case zqK => walk_at "mine dict")); intro r' h' tk' F' N' hr'; obtain ⟨t', er'⟩ := hr'; subst er'; (try dsimp only))
  k_with "call ref" => (k_here; (with_reducible show wpAny _ _ (call (Value.ref 138) _) _ _ _); k_dflt (refine' c_vfl ?zqcx ?zqd ?zqu ?zqp ?zqK _ _ ?_; (case zqcx => walk_at "mine cx"); (case zqd => walk_at "mine room"); (case zqu => walk_at "mine room"); (case zqp => walk_at "mine priv"); (case zqK => walk_at "mine dict")); intro r' h' tk' F' N' hr'; obtain ⟨t', er'⟩ := hr'; subst er'; (try dsimp only))
  k_with "mine fin" => (first | rfl | ((try dsimp only [vflV]); split <;> first | rfl | contradiction | (split <;> first | rfl | contradiction)))
  k_with "mine led" => (first | k_asm | exact drop1 (by k_asm) | exact drop2 (by k_asm) | exact drop3 (by k_asm) | exact drop4 (by k_asm))
  k_with "mine enterC" => (refine' code_defC ?zqk1 ?zqk2 ?zqk3 ?zqk4 ?zqk5 ?zqkA ?zqkF ?zqkK ?zqk6 ?zqk7 ?zqk8 ?zqk9 ?zqkB ?zqkD ?_ ?zqc2 ?zqc3 ?zqc4; (case zqkA => exact rfl); (case zqkF => exact rfl); (case zqkK => assumption); (case zqk1 => k_asm); (case zqk2 => k_asm); (case zqk3 => k_asm); (case zqk4 => k_asm); (case zqk5 => k_asm); (case zqk6 => k_is); (case zqk7 => k_is); (case zqk8 => ktr_room); (case zqk9 => exact BindsTo.of_eq rfl); (case zqkB => exact rfl); (case zqkD => decide +kernel); (case zqc2 => exact rfl); (case zqc3 => exact rfl); (case zqc4 => exact rfl); k_whole; intro g' L' h' tk' cells' FG' F' N' Y' B' X' T' l1; (try k_lt l1); k_cells Y'; (try simp only [List.cons_append, List.nil_append] at N'); (try dsimp only); (try k_fold))
  k_with "k_all" => assumption
  k_with "k_mem" => (first | exact List.Mem.head _ | ktr_member | (refine' List.mem_cons_of_mem _ ?_; k_mem))
  k_with "setItem ref int" => (k_here; k_dflt (refine' setItem_K PyProof.V.same_int (intKind_is _ _ _ _) ?zqv ?zqF ?zqN ?zqU ?zqd ?zqf ?_ ?zqz; (case zqF => k_asm); (case zqN => k_asm); (case zqU => k_updF); (case zqd => k_asm); (case zqf => k_asm); (case zqz => first | exact len_II (by assumption) | exact len_IS (by assumption)); (case zqv => k_flat)); intro h' o' F' N' hd' hf'; (try dsimp only at N'); (try k_sweep))
  k_with "call ref" => (k_here; (with_reducible show wpAny _ _ (call (Value.ref 119) _) _ _ _); k_dflt (refine' c_kind_is ?zqcx ?zqd ?zqu ?zqp ?zqK _ _ _ ?zqe ?_; (case zqcx => walk_at "mine cx"); (case zqd => walk_at "mine room"); (case zqu => walk_at "mine room"); (case zqp => walk_at "mine priv"); (case zqK => walk_at "mine dict"); (case zqe => assumption)); intro r' h' tk' F' N' hr'; obtain ⟨t', er'⟩ := hr'; subst er'; (try dsimp only))
  k_with "call ref" => (k_here; (with_reducible show wpAny _ _ (call (Value.ref 91) _) _ _ _); k_dflt (refine' c_need_plain ?zqcx ?zqd ?zqu ?zqp ?zqK _ _ ?zqe ?_; (case zqcx => walk_at "mine cx"); (case zqd => walk_at "mine room"); (case zqu => walk_at "mine room"); (case zqp => walk_at "mine priv"); (case zqK => walk_at "mine dict"); (case zqe => assumption)); intro r' h' tk' F' N' hr'; subst hr'; (try dsimp only))
  k_with "call ref" => (k_here; (with_reducible show wpAny _ _ (call (Value.ref 112) _) _ _ _); k_dflt (refine' c_need_free ?zqcx ?zqd ?zqu ?zqp ?zqH ?zqM _ _ ?zqe ?zqe2 ?_; (case zqcx => walk_at "mine cx"); (case zqd => walk_at "mine room"); (case zqu => walk_at "mine room"); (case zqp => walk_at "mine priv"); (case zqH => walk_at "mine dict"); (case zqM => walk_at "mine dict"); (case zqe => assumption); (case zqe2 => assumption)); intro r' h' tk' F' N' hr'; subst hr'; (try dsimp only))
  k_with "call builtin:sorted" => (k_here; (with_reducible show wpAny _ _ (call (Value.builtin "sorted") [Value.ref _]) _ _ _); k_dflt (refine sortD (by rfl) (by k_asm) (by k_asm) (by k_tabat) (by omega) ?_); intro D' h' tk' vs' k' F' N' l1 hi'; (try k_lt l1))
  k_with "mine fresh" => (first | assumption | exact ltm_all (by with_reducible assumption) (by walk_at "mine down") | exact lt_ne (by assumption) | exact allLt_ne (by k_asm) | exact off1_mem (by k_asm) | (rename _ ∧ _ => o9; first | exact off1_mem o9.2 | exact off1_mem o9.2.2 | exact off1_mem o9.2.2.2 | exact allLt_ne o9.2 | exact allLt_ne o9.2.2 | exact allLt_ne o9.2.2.2))
  k_with "binaryOp Add ref ref" => (k_here; (with_reducible show wpAny _ _ (binaryOp _ (Value.ref _) (Value.ref _)) _ _ _); k_dflt (refine' kmk_add_ints ?zqF ?zqN ?zqa ?zqb ?zqi ?zqj ?_ ?zqz; (case zqF => k_asm); (case zqN => k_asm); (case zqa => kmk_list); (case zqb => exact ⟨_, (News.get (by k_asm) (by k_mem)), rfl, _, rfl⟩); (case zqi => l_ints); (case zqj => assumption); (case zqz => assumption)); intro D' ws' h' F' N' l1 hI'; (try k_lt l1))
  k_with "call builtin:sorted" => (k_here; (with_reducible show wpAny _ _ (call (Value.builtin "sorted") [Value.ref _]) _ _ _); k_dflt (refine sortL (by k_asm) (by k_asm) (by k_mem) (by assumption) (by assumption) ?_); intro D' h' tk' vs' k' F' N' l1 hi'; (try k_lt l1))
  k_with "call ref" => (k_here; (with_reducible show wpAny _ _ (call (Value.ref 124) _) _ _ _); k_dflt (refine' c_secondaries ?zqcx ?zqd ?zqu ?zqp ?zqK ?zqP ?zqz ?zqown _ _ ?_; (case zqcx => walk_at "mine cx"); (case zqd => walk_at "mine room"); (case zqu => walk_at "mine room"); (case zqp => walk_at "mine priv"); (case zqK => walk_at "mine dict"); (case zqP => walk_at "mine dict"); (case zqz => assumption); (case zqown => assumption)); intro D' h' tk' ys' k' F' N' l1 hi'; (try dsimp only))
  k_with "call builtin:Exception.__init__" => (k_here; k_dflt (refine' init_K ?zqF ?zqN ?zqo ?zqX ?zql ?_; (case zqF => k_asm); (case zqN => k_asm); (case zqo => assumption); (case zqX => k_asm); (case zql => k_is)); intro t' h' F' N' ne' nn')
  k_with "setAttr ref" => (k_here; k_dflt (refine' set_K ?zqF ?zqN ?zqo ?zqX ?zql ?zqs ?zqx ?_; (case zqF => k_asm); (case zqN => k_asm); (case zqo => exact off_cons (by assumption) (by assumption)); (case zqX => k_asm); (case zql => k_is); (case zqs => k_is); (case zqx => k_is)); intro dx' h' tk' F' N')
  k_with "getMethod type:Exception" => (k_here; refine' method_type (T := "Exception") (K := _root_.Mine.hd.heap_1 _) ?zqF ?zqX meta_Exc stub_Exc (cls_Exc _) ?zqh ?_; (case zqF => k_asm); (case zqX => k_asm); (case zqh => exact hand_Exc))
  k_with "exec Raise some none" => (k_here; k_dflt (refine own_raise (by rfl) ?_))
  k_with "call ref" => (k_here; (with_reducible show wpAny _ _ (call (Value.ref 44) _) _ _ _); k_dflt (refine' c_make44 ?zqcx ?zqd ?zqu _ _ ?_; (case zqcx => walk_at "mine cx"); (case zqd => walk_at "mine room"); (case zqu => walk_at "mine room")); intro e' oe' t2' h' tk' F' N' hc' hd' off' offt'; (try dsimp only))
  k_with "RAt" => (k_here; k_dflt (refine' RAt.of ?zqX ?zqF ?zqN ?zql ?zqc ?zqd ?_; (case zqX => k_asm); (case zqF => k_asm); (case zqN => k_asm); (case zqc => assumption); (case zqd => assumption); (case zql => k_is)))
  k_with "leaving ref" => (k_here; (refine' leave_own ?zqK ?zqF ?zqN ?zqc ?zqd ?zqo ?zqot ?_; (case zqK => assumption); (case zqF => assumption); (case zqN => k_asm); (case zqc => assumption); (case zqd => assumption); (case zqo => assumption); (case zqot => assumption); k_whole; intro h' R' U'; (try dsimp only at R' U' ⊢)))
  k_with "call ref" => (k_here; (with_reducible show wpAny _ _ (call (Value.ref 91) _) _ _ _); k_dflt (refine' r_need_plain ?zqcx ?zqd ?zqu ?zqp ?zqK _ _ _ ?zqe ?_; (case zqcx => walk_at "mine cx"); (case zqd => walk_at "mine room"); (case zqu => walk_at "mine room"); (case zqp => walk_at "mine priv"); (case zqK => walk_at "mine dict"); (case zqe => assumption)); intro C' e' t2' vs' g' h' tk' hC' F' R' U'; (try dsimp only))
  k_with "call ref" => (k_here; (with_reducible show wpAny _ _ (call (Value.ref 112) _) _ _ _); k_dflt (refine' r_need_free ?zqcx ?zqd ?zqu ?zqp ?zqH ?zqM _ _ ?zqe ?_; (case zqcx => walk_at "mine cx"); (case zqd => walk_at "mine room"); (case zqu => walk_at "mine room"); (case zqp => walk_at "mine priv"); (case zqH => walk_at "mine dict"); (case zqM => walk_at "mine dict"); (case zqe => assumption)); intro C' e' t2' vs' g' h' tk' hC' F' R' U'; (try dsimp only))
  k_with "CompEnd" => (k_here; refine LCg.CompEnd.intro (by k_asm) (by k_asm) _ (by walk_at "mine sub") (by assumption) (by lcg_src) ?_)
  k_with "leaving ref" => (k_here; (refine' leave_onX ?zqK ?zqF ?zqR ?zqU ?_; (case zqR => assumption); (case zqF => assumption); (case zqK => assumption); (case zqU => assumption); k_whole; intro h' R' U'; (try dsimp only at R' U' ⊢)))
  k_with "call ref" => (k_here; (with_reducible show wpAny _ _ (call (Value.ref 56) _) _ _ _); k_dflt (refine' c_make56 ?zqcx ?zqd ?zqu _ _ ?_; (case zqcx => walk_at "mine cx"); (case zqd => walk_at "mine room"); (case zqu => walk_at "mine room")); intro e' oe' t2' h' tk' F' N' hc' hd' off' offt'; (try dsimp only))
  k_with "eval ListComp" => (k_here; lcf_look; k_dflt (refine LCg.ListComp_U (F₀ := by k_asm) (by with_unfolding_all rfl) (by decide) (by rfl) (by decide) (by rfl) ?_))
  trivial
section
variable {w : World} {mean : ExcName → Option Value} {mg mb : Str → Option Value} {dp un : Nat} {gd : Option (List Code)} {cn : Str} {cs : Scope} {a : Addr} {ccd : Value} {cl : List (Str × Addr)} {outer : List Env} {A₀ : Around} {base h₀ : Heap} {L : Addr} {m : Str → Option Value} {s : Shared} {news : List (Addr × Obj)} {Q E : Value → Shared → Prop}
  {P kd pd od md : Addr} {DK : List (Int × Str)} {DP DH DM : List (Int × Int)}

theorem rowsP11_2 : True := by
  k_with "call ref" => (k_here; (with_reducible show wpAny _ _ (call (Value.ref 124) _) _ _ _); k_dflt (refine' c_sec_lit0 ?zqcx ?zqd ?zqu ?zqp ?zqK ?zqP ?zqz ?zqown _ _ ?zqe ?_; (case zqcx => walk_at "mine cx"); (case zqp => walk_at "mine priv"); (case zqK => walk_at "mine dict"); (case zqP => walk_at "mine dict"); (case zqe => with_reducible assumption); (case zqd => walk_at "mine room"); (case zqu => walk_at "mine room"); (case zqz => assumption); (case zqown => assumption)); intro D' h' tk' k'  F' N' l1; (try k_lt l1); (try dsimp only))
  k_with "call ref" => (k_here; (with_reducible show wpAny _ _ (call (Value.ref 124) _) _ _ _); k_dflt (refine' c_sec_lit1 ?zqcx ?zqd ?zqu ?zqp ?zqK ?zqP ?zqz ?zqown _ _ ?zqe ?_; (case zqcx => walk_at "mine cx"); (case zqp => walk_at "mine priv"); (case zqK => walk_at "mine dict"); (case zqP => walk_at "mine dict"); (case zqe => with_reducible assumption); (case zqd => walk_at "mine room"); (case zqu => walk_at "mine room"); (case zqz => assumption); (case zqown => assumption)); intro D' h' tk' k' u1' F' N' l1; (try k_lt l1); (try dsimp only))
  k_with "call ref" => (k_here; (with_reducible show wpAny _ _ (call (Value.ref 124) _) _ _ _); k_dflt (refine' c_sec_lit2 ?zqcx ?zqd ?zqu ?zqp ?zqK ?zqP ?zqz ?zqown _ _ ?zqe ?_; (case zqcx => walk_at "mine cx"); (case zqp => walk_at "mine priv"); (case zqK => walk_at "mine dict"); (case zqP => walk_at "mine dict"); (case zqe => with_reducible assumption); (case zqd => walk_at "mine room"); (case zqu => walk_at "mine room"); (case zqz => assumption); (case zqown => assumption)); intro D' h' tk' k' u1' u2' F' N' l1; (try k_lt l1); (try dsimp only))
  k_with "call ref" => (k_here; (with_reducible show wpAny _ _ (call (Value.ref 124) _) _ _ _); k_dflt (refine' c_sec_lit3 ?zqcx ?zqd ?zqu ?zqp ?zqK ?zqP ?zqz ?zqown _ _ ?zqe ?_; (case zqcx => walk_at "mine cx"); (case zqp => walk_at "mine priv"); (case zqK => walk_at "mine dict"); (case zqP => walk_at "mine dict"); (case zqe => with_reducible assumption); (case zqd => walk_at "mine room"); (case zqu => walk_at "mine room"); (case zqz => assumption); (case zqown => assumption)); intro D' h' tk' k' u1' u2' u3' F' N' l1; (try k_lt l1); (try dsimp only))
  k_with "CompSrc" => (k_here; k_dflt (refine LCg.CompSrc.ledger (by rfl) (by k_asm) (by k_asm) (by k_mem) (by first | size_fits | exact Nat.le_of_ble_eq_true rfl) ?_; intro g'; first | (show LCg.CompRest _ _ _ _ _ _ _ _ _ _ _ _ _ _ _ 0 _ _ _) | (show LCg.CompRest _ _ _ _ _ _ _ _ _ _ _ _ _ _ _ 1 _ _ _) | (show LCg.CompRest _ _ _ _ _ _ _ _ _ _ _ _ _ _ _ 2 _ _ _) | (show LCg.CompRest _ _ _ _ _ _ _ _ _ _ _ _ _ _ _ 3 _ _ _) | (show LCg.CompRest _ _ _ _ _ _ _ _ _ _ _ _ _ _ _ 4 _ _ _) | (show LCg.CompRest _ _ _ _ _ _ _ _ _ _ _ _ _ _ _ 5 _ _ _) | (show LCg.CompRest _ _ _ _ _ _ _ _ _ _ _ _ _ _ _ 6 _ _ _) | (show LCg.CompRest _ _ _ _ _ _ _ _ _ _ _ _ _ _ _ 7 _ _ _) | (show LCg.CompRest _ _ _ _ _ _ _ _ _ _ _ _ _ _ _ 8 _ _ _) | (show LCg.CompRest _ _ _ _ _ _ _ _ _ _ _ _ _ _ _ 9 _ _ _)))
  k_with "CompRest" => (with_unfolding_all first
    | (refine LCg.CompRest.succ ?_; intro v' I' oI' C' oC' D' m' h' tk' E' hv' hC' hx' F' N' off' ne'; lcg_open hv')
    | refine LCg.CompRest.zero ?_)
  trivial
theorem c_add_iso {rest : List (Addr × Obj)} {oK oP : Obj} {kvsK kvsP : List (Int × Value)} (cx : Cx w mean mg mb outer A₀ base h₀ L m cs s.heap ((kd, oK) :: (pd, oP) :: rest)) (hd : dp + 4 ≤ 500) (hu : un + 40 ≤ 5000)
    (hp : PrivAt rest P kd pd od md) (nkp : @Ne Nat kd pd) (npk : @Ne Nat pd kd) (nek : ∀ q ∈ rest, q.1 ≠ kd) (nep : ∀ q ∈ rest, q.1 ≠ pd) (loK : (kd == sysModules) = false) (loP : (pd == sysModules) = false)
    (dK : oK.IsDictOf (intKind PR w) kvsK) (fK : FlatPairs PyData.int kvsK (IS DK)) (hz : DK.length ≤ 50) (dP : oP.IsDictOf (intKind PR w) kvsP) (fP : FlatPairs PyData.int kvsP (II DP)) (hz2 : DP.length ≤ 50)
    (p v : Int) (t t' t3 : Tok) (own : ∀ x ∈ DK.map Prod.fst, ∃ y, DP.lookup x = some y) (es : secF DK DP p = []) (e1 : DK.lookup v = none) (e2 : DP.lookup v = none) (ek : (DK.lookup p).getD "plain" = "primary")
    (ret : ∀ h' tk' oK' kvsK' oP' kvsP', Fr h₀ L h' m → News h₀ L h' ((kd, oK') :: (pd, oP') :: rest) → oK'.IsDictOf (intKind PR w) kvsK' → FlatPairs PyData.int kvsK' (IS (DK ++ [(v, ("isolated" : Str))])) →
      oP'.IsDictOf (intKind PR w) kvsP' → FlatPairs PyData.int kvsP' (II (DP ++ [(v, p)])) → Q .none { s with heap := h', toks := tk' }) :
    wpAny (model PR w) (ktrTop dp un gd cn cs L a ccd cl outer) (call (.ref 84) [.ref P, .int p t, .int v t', .str "isolated" t3]) Q E s := by
  obtain ⟨B, F, X, N, T, hk⟩ := cx
  have hp1 := hp.mono (news' := (kd, oK) :: (pd, oP) :: rest) fun _ h => List.mem_cons_of_mem _ (List.mem_cons_of_mem _ h)
  have hK1 : DictAt w ((kd, oK) :: (pd, oP) :: rest) kd (IS DK) := ⟨oK, kvsK, .head _, loK, dK, fK⟩
  have hp2 := hp1
  have hP1 : DictAt w ((kd, oK) :: (pd, oP) :: rest) pd (II DP) := ⟨oP, kvsP, .tail _ (.head _), loP, dP, fP⟩
  have hzz : DK.length < 63 := by omega
  obtain ⟨dx, h1, h2, h3, h4, t1, t2, t3, t4, n, mP, mD⟩ := hp
  have hz1 : DK.length ≤ 100 := by omega
  have hz2 : DP.length ≤ 100 := by omega
  have ep := putD_IS (x := ("isolated" : Str)) e1
  have ep2 := putD_II (x := p) e2
  have hapK : ∀ q ∈ (pd, oP) :: rest, q.1 ≠ kd := List.forall_mem_cons.mpr ⟨npk, nek⟩
  refine wpAny_call ?_
  k_dflt (walk_at "mine enterC")
  k_steps
  rename News _ _ _ _ => N8
  have N9 := drop3 N8
  clear N8
  k_steps
  exact ret _ _ _ _ _ _ (by k_asm) (newsSub (by k_asm) (by walk_at "mine sub")) (by assumption) (by rw [← ep]; assumption) (by assumption) (by rw [← ep2]; assumption)
end
end Mine
namespace Mine
theorem rowsP12_0 : True := by
  k_with_none
  k_with "mine down" => (first | exact fun _ h => h | (refine dn ?_; walk_at "mine down"))
  k_with "k_ne" => (first | with_reducible assumption | exact Ne.symm (by with_reducible assumption) | exact ltm_ne (by with_reducible assumption) (by k_mem) | exact ltm_en (by with_reducible assumption) (by k_mem) | exact Nat.ne_of_lt (by with_reducible assumption) | exact Nat.ne_of_gt (by with_reducible assumption) | exact ltm_c1 (by with_reducible assumption) (by k_mem) | exact ltm_d1 (by with_reducible assumption) (by k_mem) | exact ltm_c2 (by with_reducible assumption) (by k_mem) | exact ltm_d2 (by with_reducible assumption) (by k_mem) | exact ltm_c3 (by with_reducible assumption) (by k_mem) | exact ltm_d3 (by with_reducible assumption) (by k_mem) | exact ltm_c4 (by with_reducible assumption) (by k_mem) | exact ltm_d4 (by with_reducible assumption) (by k_mem) | exact ltm_c5 (by with_reducible assumption) (by k_mem) | exact ltm_d5 (by with_reducible assumption) (by k_mem) | (refine neN ?_; (try dsimp only); omega))
  k_with "k_all" => (first | exact ltm_all (by with_reducible assumption) (by walk_at "mine down") | exact ltm_a1 (by with_reducible assumption) (by walk_at "mine down") | exact ltm_a2 (by with_reducible assumption) (by walk_at "mine down") | exact ltm_a3 (by with_reducible assumption) (by walk_at "mine down") | exact ltm_a4 (by with_reducible assumption) (by walk_at "mine down") | exact ltm_a5 (by with_reducible assumption) (by walk_at "mine down"))
  trivial
theorem fill12 : (hd.heap_1 = hd.heap_1) ∧ (PySem.Challenge.rw_pb0538_01 = PySem.Challenge.rw_pb0538_01) := by k_fill; exact ⟨rfl, rfl⟩
theorem rowsP12_1 : True := by
  k_with "compareOp In int ref" => (k_here; k_dflt (first | refine in_hit (by k_tabat) (by assumption) ?_ | refine in_miss (by k_tabat) (by assumption) ?_))
  k_with "compareOp NotIn int ref" => (k_here; k_dflt (first | refine notin_hit (by k_tabat) (by assumption) ?_ | refine notin_miss (by k_tabat) (by assumption) ?_))
  k_with "mine cx" => exact ⟨by k_asm, by k_asm, by k_asm, by k_asm, by k_asm, by first | exact rfl | assumption⟩
  k_with "mine sub" => (first | exact fun _ h => h | exact sub_skip (fun _ h => h) | exact sub_skip (sub_skip (fun _ h => h)) | exact sub_skip (sub_skip (sub_skip (fun _ h => h))) | exact sub_skip (sub_skip (sub_skip (sub_skip (fun _ h => h)))) | exact sub_skip (sub_skip (sub_skip (sub_skip (sub_skip (fun _ h => h))))) | exact sub_skip (sub_skip (sub_skip (sub_skip (sub_skip (sub_skip (fun _ h => h)))))) | exact sub_keep (sub_skip (fun _ h => h)) | exact sub_keep (sub_skip (sub_skip (fun _ h => h))) | exact sub_keep (sub_skip (sub_skip (sub_skip (fun _ h => h)))) | exact sub_keep (sub_skip (sub_skip (sub_skip (sub_skip (fun _ h => h))))) | exact sub_keep (sub_skip (sub_skip (sub_skip (sub_skip (sub_skip (fun _ h => h)))))) | exact sub_keep (sub_skip (sub_skip (sub_skip (sub_skip (sub_skip (sub_skip (fun _ h => h))))))))
  k_with "mine priv" => (first | assumption | exact PrivAt.mono (by assumption) (by walk_at "mine sub"))
  k_with "mine dict" => (first | assumption | exact DictAt.mono (by assumption) (by walk_at "mine sub"))
  k_with "mine room" => ((try simp only [depth_under_make, depth_under_kw, depth_in1, depth_deeper, depth_caller, units_in1, units_deeper, Around.mark_units, units_caller]); (try dsimp only [ktrTop]); omega)
  k_with "call ref" => (k_here; (with_reducible show wpAny _ _ (call (Value.ref 119) _) _ _ _); k_dflt (refine' c_kind_of ?zqcx ?zqd ?zqu ?zqp ?zqK _ _ ?_; (case zqcx => walk_at "mine cx"); (case zqd => walk_at "mine room"); (case zqu => walk_at "mine room"); (case zqp => walk_at "mine priv"); (case zqK => walk_at "mine dict")); intro r' h' tk' F' N' hr'; obtain ⟨t', er'⟩ := hr'; subst er'; (try dsimp only))
  k_with "call ref" => (k_here; (with_reducible show wpAny _ _ (call (Value.ref 138) _) _ _ _); k_dflt (refine' c_vfl ?zqcx ?zqd ?zqu ?zqp ?zqK _ _ ?_; (case zqcx => walk_at "mine cx"); (case zqd => walk_at "mine room"); (case zqu => walk_at "mine room"); (case zqp => walk_at "mine priv"); (case zqK => walk_at "mine dict")); intro r' h' tk' F' N' hr'; obtain ⟨t', er'⟩ := hr'; subst er'; (try dsimp only))
  k_with "mine fin" => (first | rfl | ((try dsimp only [vflV]); split <;> first | rfl | contradiction | (split <;> first | rfl | contradiction)))
  k_with "mine led" => (first | k_asm | exact drop1 (by k_asm) | exact drop2 (by k_asm) | exact drop3 (by k_asm) | exact drop4 (by k_asm))
  k_with "mine enterC" => (refine' code_defC ?zqk1 ?zqk2 ?zqk3 ?zqk4 ?zqk5 ?zqkA ?zqkF ?zqkK ?zqk6 ?zqk7 ?zqk8 ?zqk9 ?zqkB ?zqkD ?_ ?zqc2 ?zqc3 ?zqc4; (case zqkA => exact rfl); (case zqkF => exact rfl); (case zqkK => assumption); (case zqk1 => k_asm); (case zqk2 => k_asm); (case zqk3 => k_asm); (case zqk4 => k_asm); (case zqk5 => k_asm); (case zqk6 => k_is); (case zqk7 => k_is); (case zqk8 => ktr_room); (case zqk9 => exact BindsTo.of_eq rfl); (case zqkB => exact rfl); (case zqkD => decide +kernel); (case zqc2 => exact rfl); (case zqc3 => exact rfl); (case zqc4 => exact rfl); k_whole; intro g' L' h' tk' cells' FG' F' N' Y' B' X' T' l1; (try k_lt l1); k_cells Y'; (try simp only [List.cons_append, List.nil_append] at N'); (try dsimp only); (try k_fold))
  k_with "k_all" => assumption
  k_with "k_mem" => (first | exact List.Mem.head _ | ktr_member | (refine' List.mem_cons_of_mem _ ?_; k_mem))
  k_with "setItem ref int" => (k_here; k_dflt (refine' setItem_K PyProof.V.same_int (intKind_is _ _ _ _) ?zqv ?zqF ?zqN ?zqU ?zqd ?zqf ?_ ?zqz; (case zqF => k_asm); (case zqN => k_asm); (case zqU => k_updF); (case zqd => k_asm); (case zqf => k_asm); (case zqz => first | exact len_II (by assumption) | exact len_IS (by assumption)); (case zqv => k_flat)); intro h' o' F' N' hd' hf'; (try dsimp only at N'); (try k_sweep))
  k_with "call ref" => (k_here; (with_reducible show wpAny _ _ (call (Value.ref 119) _) _ _ _); k_dflt (refine' c_kind_is ?zqcx ?zqd ?zqu ?zqp ?zqK _ _ _ ?zqe ?_; (case zqcx => walk_at "mine cx"); (case zqd => walk_at "mine room"); (case zqu => walk_at "mine room"); (case zqp => walk_at "mine priv"); (case zqK => walk_at "mine dict"); (case zqe => assumption)); intro r' h' tk' F' N' hr'; obtain ⟨t', er'⟩ := hr'; subst er'; (try dsimp only))
  k_with "call ref" => (k_here; (with_reducible show wpAny _ _ (call (Value.ref 91) _) _ _ _); k_dflt (refine' c_need_plain ?zqcx ?zqd ?zqu ?zqp ?zqK _ _ ?zqe ?_; (case zqcx => walk_at "mine cx"); (case zqd => walk_at "mine room"); (case zqu => walk_at "mine room"); (case zqp => walk_at "mine priv"); (case zqK => walk_at "mine dict"); (case zqe => assumption)); intro r' h' tk' F' N' hr'; subst hr'; (try dsimp only))
  k_with "call ref" => (k_here; (with_reducible show wpAny _ _ (call (Value.ref 112) _) _ _ _); k_dflt (refine' c_need_free ?zqcx ?zqd ?zqu ?zqp ?zqH ?zqM _ _ ?zqe ?zqe2 ?_; (case zqcx => walk_at "mine cx"); (case zqd => walk_at "mine room"); (case zqu => walk_at "mine room"); (case zqp => walk_at "mine priv"); (case zqH => walk_at "mine dict"); (case zqM => walk_at "mine dict"); (case zqe => assumption); (case zqe2 => assumption)); intro r' h' tk' F' N' hr'; subst hr'; (try dsimp only))
  k_with "call builtin:sorted" => (k_here; (with_reducible show wpAny _ _ (call (Value.builtin "sorted") [Value.ref _]) _ _ _); k_dflt (refine sortD (by rfl) (by k_asm) (by k_asm) (by k_tabat) (by omega) ?_); intro D' h' tk' vs' k' F' N' l1 hi'; (try k_lt l1))
  k_with "mine fresh" => (first | assumption | exact ltm_all (by with_reducible assumption) (by walk_at "mine down") | exact lt_ne (by assumption) | exact allLt_ne (by k_asm) | exact off1_mem (by k_asm) | (rename _ ∧ _ => o9; first | exact off1_mem o9.2 | exact off1_mem o9.2.2 | exact off1_mem o9.2.2.2 | exact allLt_ne o9.2 | exact allLt_ne o9.2.2 | exact allLt_ne o9.2.2.2))
  k_with "binaryOp Add ref ref" => (k_here; (with_reducible show wpAny _ _ (binaryOp _ (Value.ref _) (Value.ref _)) _ _ _); k_dflt (refine' kmk_add_ints ?zqF ?zqN ?zqa ?zqb ?zqi ?zqj ?_ ?zqz; (case zqF => k_asm); (case zqN => k_asm); (case zqa => kmk_list); (case zqb => exact ⟨_, (News.get (by k_asm) (by k_mem)), rfl, _, rfl⟩); (case zqi => l_ints); (case zqj => assumption); (case zqz => assumption)); intro D' ws' h' F' N' l1 hI'; (try k_lt l1))
  k_with "call builtin:sorted" => (k_here; (with_reducible show wpAny _ _ (call (Value.builtin "sorted") [Value.ref _]) _ _ _); k_dflt (refine sortL (by k_asm) (by k_asm) (by k_mem) (by assumption) (by assumption) ?_); intro D' h' tk' vs' k' F' N' l1 hi'; (try k_lt l1))
  k_with "call ref" => (k_here; (with_reducible show wpAny _ _ (call (Value.ref 124) _) _ _ _); k_dflt (refine' c_secondaries ?zqcx ?zqd ?zqu ?zqp ?zqK ?zqP ?zqz ?zqown _ _ ?_; (case zqcx => walk_at "mine cx"); (case zqd => walk_at "mine room"); (case zqu => walk_at "mine room"); (case zqp => walk_at "mine priv"); (case zqK => walk_at "mine dict"); (case zqP => walk_at "mine dict"); (case zqz => assumption); (case zqown => assumption)); intro D' h' tk' ys' k' F' N' l1 hi'; (try dsimp only))
  k_with "call builtin:Exception.__init__" => (k_here; k_dflt (refine' init_K ?zqF ?zqN ?zqo ?zqX ?zql ?_; (case zqF => k_asm); (case zqN => k_asm); (case zqo => assumption); (case zqX => k_asm); (case zql => k_is)); intro t' h' F' N' ne' nn')
  k_with "setAttr ref" => (k_here; k_dflt (refine' set_K ?zqF ?zqN ?zqo ?zqX ?zql ?zqs ?zqx ?_; (case zqF => k_asm); (case zqN => k_asm); (case zqo => exact off_cons (by assumption) (by assumption)); (case zqX => k_asm); (case zql => k_is); (case zqs => k_is); (case zqx => k_is)); intro dx' h' tk' F' N')
  k_with "getMethod type:Exception" => (k_here; refine' method_type (T := "Exception") (K := _root_.Mine.hd.heap_1 _) ?zqF ?zqX meta_Exc stub_Exc (cls_Exc _) ?zqh ?_; (case zqF => k_asm); (case zqX => k_asm); (case zqh => exact hand_Exc))
  k_with "exec Raise some none" => (k_here; k_dflt (refine own_raise (by rfl) ?_))
  k_with "call ref" => (k_here; (with_reducible show wpAny _ _ (call (Value.ref 44) _) _ _ _); k_dflt (refine' c_make44 ?zqcx ?zqd ?zqu _ _ ?_; (case zqcx => walk_at "mine cx"); (case zqd => walk_at "mine room"); (case zqu => walk_at "mine room")); intro e' oe' t2' h' tk' F' N' hc' hd' off' offt'; (try dsimp only))
  k_with "RAt" => (k_here; k_dflt (refine' RAt.of ?zqX ?zqF ?zqN ?zql ?zqc ?zqd ?_; (case zqX => k_asm); (case zqF => k_asm); (case zqN => k_asm); (case zqc => assumption); (case zqd => assumption); (case zql => k_is)))
  k_with "leaving ref" => (k_here; (refine' leave_own ?zqK ?zqF ?zqN ?zqc ?zqd ?zqo ?zqot ?_; (case zqK => assumption); (case zqF => assumption); (case zqN => k_asm); (case zqc => assumption); (case zqd => assumption); (case zqo => assumption); (case zqot => assumption); k_whole; intro h' R' U'; (try dsimp only at R' U' ⊢)))
  k_with "call ref" => (k_here; (with_reducible show wpAny _ _ (call (Value.ref 91) _) _ _ _); k_dflt (refine' r_need_plain ?zqcx ?zqd ?zqu ?zqp ?zqK _ _ _ ?zqe ?_; (case zqcx => walk_at "mine cx"); (case zqd => walk_at "mine room"); (case zqu => walk_at "mine room"); (case zqp => walk_at "mine priv"); (case zqK => walk_at "mine dict"); (case zqe => assumption)); intro C' e' t2' vs' g' h' tk' hC' F' R' U'; (try dsimp only))
  k_with "call ref" => (k_here; (with_reducible show wpAny _ _ (call (Value.ref 112) _) _ _ _); k_dflt (refine' r_need_free ?zqcx ?zqd ?zqu ?zqp ?zqH ?zqM _ _ ?zqe ?_; (case zqcx => walk_at "mine cx"); (case zqd => walk_at "mine room"); (case zqu => walk_at "mine room"); (case zqp => walk_at "mine priv"); (case zqH => walk_at "mine dict"); (case zqM => walk_at "mine dict"); (case zqe => assumption)); intro C' e' t2' vs' g' h' tk' hC' F' R' U'; (try dsimp only))
  k_with "CompEnd" => (k_here; refine LCg.CompEnd.intro (by k_asm) (by k_asm) _ (by walk_at "mine sub") (by assumption) (by lcg_src) ?_)
  k_with "leaving ref" => (k_here; (refine' leave_onX ?zqK ?zqF ?zqR ?zqU ?_; (case zqR => assumption); (case zqF => assumption); (case zqK => assumption); (case zqU => assumption); k_whole; intro h' R' U'; (try dsimp only at R' U' ⊢)))
  k_with "call ref" => (k_here; (with_reducible show wpAny _ _ (call (Value.ref 56) _) _ _ _); k_dflt (refine' c_make56 ?zqcx ?zqd ?zqu _ _ ?_; (case zqcx => walk_at "mine cx"); (case zqd => walk_at "mine room"); (case zqu => walk_at "mine room")); intro e' oe' t2' h' tk' F' N' hc' hd' off' offt'; (try dsimp only))
  k_with "eval ListComp" => (k_here; lcf_look; k_dflt (refine LCg.ListComp_U (F₀ := by k_asm) (by with_unfolding_all rfl) (by decide) (by rfl) (by decide) (by rfl) ?_))
  k_with "subscriptTail" => (k_here; (with_reducible show wpAny _ _ (subscriptTail _ _ (Value.ref _) (Value.int _ _)) _ _ _); k_dflt (refine' tab_tail (knd := intKind _ _) (enc := PyData.int) ?zqT ?_; (case zqT => k_tabat); k_whole))
  k_with "getItem ref int" => (k_here; k_dflt (refine' getItem_tab PyProof.V.same_int (intKind_is _ _ _ _) ?zqk1 ?zqk2 ?_; (case zqk1 => k_tabat); (case zqk2 => with_reducible assumption); k_whole); intro _ hv'; dict_open hv')
  trivial
section
variable {w : World} {mean : ExcName → Option Value} {mg mb : Str → Option Value} {dp un : Nat} {gd : Option (List Code)} {cn : Str} {cs : Scope} {a : Addr} {ccd : Value} {cl : List (Str × Addr)} {outer : List Env} {A₀ : Around} {base h₀ : Heap} {L : Addr} {m : Str → Option Value} {s : Shared} {news : List (Addr × Obj)} {Q E : Value → Shared → Prop}
  {P kd pd od md : Addr} {DK : List (Int × Str)} {DP DH DM : List (Int × Int)}

theorem rowsP12_2 : True := by
  k_with "call ref" => (k_here; (with_reducible show wpAny _ _ (call (Value.ref 124) _) _ _ _); k_dflt (refine' c_sec_lit0 ?zqcx ?zqd ?zqu ?zqp ?zqK ?zqP ?zqz ?zqown _ _ ?zqe ?_; (case zqcx => walk_at "mine cx"); (case zqp => walk_at "mine priv"); (case zqK => walk_at "mine dict"); (case zqP => walk_at "mine dict"); (case zqe => with_reducible assumption); (case zqd => walk_at "mine room"); (case zqu => walk_at "mine room"); (case zqz => assumption); (case zqown => assumption)); intro D' h' tk' k'  F' N' l1; (try k_lt l1); (try dsimp only))
  k_with "call ref" => (k_here; (with_reducible show wpAny _ _ (call (Value.ref 124) _) _ _ _); k_dflt (refine' c_sec_lit1 ?zqcx ?zqd ?zqu ?zqp ?zqK ?zqP ?zqz ?zqown _ _ ?zqe ?_; (case zqcx => walk_at "mine cx"); (case zqp => walk_at "mine priv"); (case zqK => walk_at "mine dict"); (case zqP => walk_at "mine dict"); (case zqe => with_reducible assumption); (case zqd => walk_at "mine room"); (case zqu => walk_at "mine room"); (case zqz => assumption); (case zqown => assumption)); intro D' h' tk' k' u1' F' N' l1; (try k_lt l1); (try dsimp only))
  k_with "call ref" => (k_here; (with_reducible show wpAny _ _ (call (Value.ref 124) _) _ _ _); k_dflt (refine' c_sec_lit2 ?zqcx ?zqd ?zqu ?zqp ?zqK ?zqP ?zqz ?zqown _ _ ?zqe ?_; (case zqcx => walk_at "mine cx"); (case zqp => walk_at "mine priv"); (case zqK => walk_at "mine dict"); (case zqP => walk_at "mine dict"); (case zqe => with_reducible assumption); (case zqd => walk_at "mine room"); (case zqu => walk_at "mine room"); (case zqz => assumption); (case zqown => assumption)); intro D' h' tk' k' u1' u2' F' N' l1; (try k_lt l1); (try dsimp only))
  k_with "call ref" => (k_here; (with_reducible show wpAny _ _ (call (Value.ref 124) _) _ _ _); k_dflt (refine' c_sec_lit3 ?zqcx ?zqd ?zqu ?zqp ?zqK ?zqP ?zqz ?zqown _ _ ?zqe ?_; (case zqcx => walk_at "mine cx"); (case zqp => walk_at "mine priv"); (case zqK => walk_at "mine dict"); (case zqP => walk_at "mine dict"); (case zqe => with_reducible assumption); (case zqd => walk_at "mine room"); (case zqu => walk_at "mine room"); (case zqz => assumption); (case zqown => assumption)); intro D' h' tk' k' u1' u2' u3' F' N' l1; (try k_lt l1); (try dsimp only))
  k_with "CompSrc" => (k_here; k_dflt (refine LCg.CompSrc.ledger (by rfl) (by k_asm) (by k_asm) (by k_mem) (by first | size_fits | exact Nat.le_of_ble_eq_true rfl) ?_; intro g'; first | (show LCg.CompRest _ _ _ _ _ _ _ _ _ _ _ _ _ _ _ 0 _ _ _) | (show LCg.CompRest _ _ _ _ _ _ _ _ _ _ _ _ _ _ _ 1 _ _ _) | (show LCg.CompRest _ _ _ _ _ _ _ _ _ _ _ _ _ _ _ 2 _ _ _) | (show LCg.CompRest _ _ _ _ _ _ _ _ _ _ _ _ _ _ _ 3 _ _ _) | (show LCg.CompRest _ _ _ _ _ _ _ _ _ _ _ _ _ _ _ 4 _ _ _) | (show LCg.CompRest _ _ _ _ _ _ _ _ _ _ _ _ _ _ _ 5 _ _ _) | (show LCg.CompRest _ _ _ _ _ _ _ _ _ _ _ _ _ _ _ 6 _ _ _) | (show LCg.CompRest _ _ _ _ _ _ _ _ _ _ _ _ _ _ _ 7 _ _ _) | (show LCg.CompRest _ _ _ _ _ _ _ _ _ _ _ _ _ _ _ 8 _ _ _) | (show LCg.CompRest _ _ _ _ _ _ _ _ _ _ _ _ _ _ _ 9 _ _ _)))
  k_with "CompRest" => (with_unfolding_all first
    | (refine LCg.CompRest.succ ?_; intro v' I' oI' C' oC' D' m' h' tk' E' hv' hC' hx' F' N' off' ne'; lcg_open hv')
    | refine LCg.CompRest.zero ?_)
  trivial
theorem r_add_sec (cx : Cx w mean mg mb outer A₀ base h₀ L m cs s.heap news) (hd : dp + 5 ≤ 500) (hu : un + 50 ≤ 5000)
    (hp : PrivAt news P kd pd od md) (hK : DictAt w news kd (IS DK)) (hP : DictAt w news pd (II DP)) (hzz : DK.length < 63) (own : ∀ x ∈ DK.map Prod.fst, ∃ y, DP.lookup x = some y) (p v : Int) (k : Str) (t t' t3 : Tok) (e1 : DK.lookup v = none)
    (ek : ((DK.lookup p).getD "plain" = "plain" ∧ k = "community") ∨ ((DK.lookup p).getD "plain" = "isolated" ∧ k = "community") ∨ ((DK.lookup p).getD "plain" = "primary" ∧ k = "alone") ∨
      ((DK.lookup p).getD "plain" = "primary" ∧ k = "isolated" ∧ DK.lookup 101 = some "isolated" ∧
        (secF DK DP p = [101] ∨ (secF DK DP p = [101, 102] ∧ DK.lookup 102 = some "community") ∨ (secF DK DP p = [101, 102, 103] ∧ DK.lookup 102 = some "community" ∧ DK.lookup 103 = some "community"))))
    (exc : Lands base h₀ outer L m cn cs a ccd cl s E news) :
    wpAny (model PR w) (ktrTop dp un gd cn cs L a ccd cl outer) (call (.ref 84) [.ref P, .int p t, .int v t', .str k t3]) Q E s := by
  obtain ⟨B, F, X, N, T, hk⟩ := cx
  have hp0 := hp
  have hK0 := hK
  have hP0 := hP
  obtain ⟨dx, h1, h2, h3, h4, t1, t2, t3, t4, n, mP, mD⟩ := hp
  obtain ⟨oK, kvsK, mK, loK, dK, fK⟩ := hK
  rcases ek with ⟨ek, rfl⟩ | ⟨ek, rfl⟩ | ⟨ek, rfl⟩ | ⟨ek, rfl, e101, es | ⟨es, e102⟩ | ⟨es, e102, e103⟩⟩
  · refine wpAny_call ?_
    k_dflt (walk_at "mine enterC")
    k_steps
    exact exc _ _ _ _ _ _ _ (.inl rfl) (by assumption) (raised_less (by assumption) (by walk_at "mine sub")) (by assumption)
  · refine wpAny_call ?_
    k_dflt (walk_at "mine enterC")
    k_steps
    exact exc _ _ _ _ _ _ _ (.inl rfl) (by assumption) (raised_less (by assumption) (by walk_at "mine sub")) (by assumption)
  · refine wpAny_call ?_
    k_dflt (walk_at "mine enterC")
    k_steps
    exact exc _ _ _ _ _ _ _ (.inr rfl) (by assumption) (raised_less (by assumption) (by walk_at "mine sub")) (by assumption)
  · have l1 := lookS_some e101
    refine wpAny_call ?_
    k_dflt (walk_at "mine enterC")
    k_steps
    exact exc _ _ _ _ _ _ _ (.inl rfl) (by assumption) (raised_less (by assumption) (by walk_at "mine sub")) (by assumption)
  · have l1 := lookS_some e101
    have l2 := lookS_some e102
    refine wpAny_call ?_
    k_dflt (walk_at "mine enterC")
    k_steps
    exact exc _ _ _ _ _ _ _ (.inl rfl) (by assumption) (raised_less (by assumption) (by walk_at "mine sub")) (by assumption)
  · have l1 := lookS_some e101
    have l2 := lookS_some e102
    have l3 := lookS_some e103
    refine wpAny_call ?_
    k_dflt (walk_at "mine enterC")
    k_steps
    exact exc _ _ _ _ _ _ _ (.inl rfl) (by assumption) (raised_less (by assumption) (by walk_at "mine sub")) (by assumption)
end
end Mine
namespace Mine
theorem rowsP13_0 : True := by
  k_with_none
  k_with "mine down" => (first | exact fun _ h => h | (refine dn ?_; walk_at "mine down"))
  k_with "k_ne" => (first | with_reducible assumption | exact Ne.symm (by with_reducible assumption) | exact ltm_ne (by with_reducible assumption) (by k_mem) | exact ltm_en (by with_reducible assumption) (by k_mem) | exact Nat.ne_of_lt (by with_reducible assumption) | exact Nat.ne_of_gt (by with_reducible assumption) | exact ltm_c1 (by with_reducible assumption) (by k_mem) | exact ltm_d1 (by with_reducible assumption) (by k_mem) | exact ltm_c2 (by with_reducible assumption) (by k_mem) | exact ltm_d2 (by with_reducible assumption) (by k_mem) | exact ltm_c3 (by with_reducible assumption) (by k_mem) | exact ltm_d3 (by with_reducible assumption) (by k_mem) | exact ltm_c4 (by with_reducible assumption) (by k_mem) | exact ltm_d4 (by with_reducible assumption) (by k_mem) | exact ltm_c5 (by with_reducible assumption) (by k_mem) | exact ltm_d5 (by with_reducible assumption) (by k_mem) | (refine neN ?_; (try dsimp only); omega))
  k_with "k_all" => (first | exact ltm_all (by with_reducible assumption) (by walk_at "mine down") | exact ltm_a1 (by with_reducible assumption) (by walk_at "mine down") | exact ltm_a2 (by with_reducible assumption) (by walk_at "mine down") | exact ltm_a3 (by with_reducible assumption) (by walk_at "mine down") | exact ltm_a4 (by with_reducible assumption) (by walk_at "mine down") | exact ltm_a5 (by with_reducible assumption) (by walk_at "mine down"))
  trivial
theorem fill13 : (hd.heap_1 = hd.heap_1) ∧ (PySem.Challenge.rw_pb0538_01 = PySem.Challenge.rw_pb0538_01) := by k_fill; exact ⟨rfl, rfl⟩
theorem rowsP13_1 : True := by
  k_with "mine cx" => exact ⟨by k_asm, by k_asm, by k_asm, by k_asm, by k_asm, by first | exact rfl | assumption⟩
  k_with "mine sub" => (first | exact fun _ h => h | exact sub_skip (fun _ h => h) | exact sub_skip (sub_skip (fun _ h => h)) | exact sub_skip (sub_skip (sub_skip (fun _ h => h))) | exact sub_skip (sub_skip (sub_skip (sub_skip (fun _ h => h)))) | exact sub_skip (sub_skip (sub_skip (sub_skip (sub_skip (fun _ h => h))))) | exact sub_skip (sub_skip (sub_skip (sub_skip (sub_skip (sub_skip (fun _ h => h)))))) | exact sub_keep (sub_skip (fun _ h => h)) | exact sub_keep (sub_skip (sub_skip (fun _ h => h))) | exact sub_keep (sub_skip (sub_skip (sub_skip (fun _ h => h)))) | exact sub_keep (sub_skip (sub_skip (sub_skip (sub_skip (fun _ h => h))))) | exact sub_keep (sub_skip (sub_skip (sub_skip (sub_skip (sub_skip (fun _ h => h)))))) | exact sub_keep (sub_skip (sub_skip (sub_skip (sub_skip (sub_skip (sub_skip (fun _ h => h))))))))
  k_with "mine priv" => (first | assumption | exact PrivAt.mono (by assumption) (by walk_at "mine sub"))
  k_with "mine dict" => (first | assumption | exact DictAt.mono (by assumption) (by walk_at "mine sub"))
  k_with "mine room" => ((try simp only [depth_under_make, depth_under_kw, depth_in1, depth_deeper, depth_caller, units_in1, units_deeper, Around.mark_units, units_caller]); (try dsimp only [ktrTop]); omega)
  k_with "k_all" => assumption
  k_with "k_mem" => (first | exact List.Mem.head _ | ktr_member | (refine' List.mem_cons_of_mem _ ?_; k_mem))
  trivial
theorem fm0 (z : Int) {t : Int} (h : 0 < t) : 0 ≤ z.fmod t := Int.fmod_nonneg_of_pos z h
theorem fm1 (z : Int) {t : Int} (h : 0 < t) : z.fmod t < t := Int.fmod_lt_of_pos z h
theorem mulOk_small {z : Int} (h0 : 0 ≤ z) (h1 : z < 2147483647) : IntMulOk z z := IntMulOk.of_left (PySem.intBits_le_64 (by omega) (by omega))
theorem mulOk_sq (x z : Int) : IntMulOk ([x, z.fmod 2147483647].getD (Int.toNat 1) 0) ([x, z.fmod 2147483647].getD (Int.toNat 1) 0) :=
  mulOk_small (fm0 z (by decide)) (fm1 z (by decide))
theorem rowsP13_2 : True := by
  k_with "binaryOp Mult int int" => (k_here; (with_reducible refine mul_int (hm := mulOk_sq _ _) ?_))
  trivial
section
variable {w : World} {mean : ExcName → Option Value} {mg mb : Str → Option Value} {dp un : Nat} {gd : Option (List Code)} {cn : Str} {cs : Scope} {a : Addr} {ccd : Value} {cl : List (Str × Addr)} {outer : List Env} {A₀ : Around} {base h₀ : Heap} {L : Addr} {m : Str → Option Value} {s : Shared} {news : List (Addr × Obj)} {Q E : Value → Shared → Prop}
  {P kd pd od md : Addr} {DK : List (Int × Str)} {DP DH DM : List (Int × Int)}

/-- the source of draws -/
abbrev srcOf (x y : Int) (t u : Tok) (k : Nat) : Obj := listOf #[.int x t, .int y u] k
theorem c_take {sd : Addr} {rest : List (Addr × Obj)} {x y : Int} {tx ty : Tok} {k : Nat} (cx : Cx w mean mg mb outer A₀ base h₀ L m cs s.heap ((sd, srcOf x y tx ty k) :: rest)) (hd : dp + 1 ≤ 500) (hu : un + 10 ≤ 5000)
    (ne : ∀ q ∈ rest, q.1 ≠ sd) (hy : 0 ≤ y) (hy2 : y < 2147483647) (top : Int) (t : Tok) (ht : 0 < top) (ht2 : top < 100)
    (ret : ∀ d u h' tk' x' y' tx' ty' k', 0 ≤ d → d < top → 0 ≤ y' → y' < 2147483647 → Fr h₀ L h' m → News h₀ L h' ((sd, srcOf x' y' tx' ty' k') :: rest) → Q (.int d u) { s with heap := h', toks := tk' }) :
    wpAny (model PR w) (ktrTop dp un gd cn cs L a ccd cl outer) (call (.ref 180) [.ref sd, .int top t]) Q E s := by
  obtain ⟨B, F, X, N, T, hk⟩ := cx
  refine wpAny_call ?_
  k_dflt ktr_enter
  k_steps
  · exact ret _ _ _ _ _ _ _ _ _ (fm0 _ ht) (fm1 _ ht) hy hy2 (by k_asm) (by k_asm)
  · exact ret _ _ _ _ _ _ _ _ _ (fm0 _ ht) (fm1 _ ht) (fm0 _ (by decide)) (fm1 _ (by decide)) (by k_asm) (by k_asm)
end
end Mine
namespace Mine
theorem rowsP14_0 : True := by
  k_with_none
  k_with "mine down" => (first | exact fun _ h => h | (refine dn ?_; walk_at "mine down"))
  k_with "k_ne" => (first | with_reducible assumption | exact Ne.symm (by with_reducible assumption) | exact ltm_ne (by with_reducible assumption) (by k_mem) | exact ltm_en (by with_reducible assumption) (by k_mem) | exact Nat.ne_of_lt (by with_reducible assumption) | exact Nat.ne_of_gt (by with_reducible assumption) | exact ltm_c1 (by with_reducible assumption) (by k_mem) | exact ltm_d1 (by with_reducible assumption) (by k_mem) | exact ltm_c2 (by with_reducible assumption) (by k_mem) | exact ltm_d2 (by with_reducible assumption) (by k_mem) | exact ltm_c3 (by with_reducible assumption) (by k_mem) | exact ltm_d3 (by with_reducible assumption) (by k_mem) | exact ltm_c4 (by with_reducible assumption) (by k_mem) | exact ltm_d4 (by with_reducible assumption) (by k_mem) | exact ltm_c5 (by with_reducible assumption) (by k_mem) | exact ltm_d5 (by with_reducible assumption) (by k_mem) | (refine neN ?_; (try dsimp only); omega))
  k_with "k_all" => (first | exact ltm_all (by with_reducible assumption) (by walk_at "mine down") | exact ltm_a1 (by with_reducible assumption) (by walk_at "mine down") | exact ltm_a2 (by with_reducible assumption) (by walk_at "mine down") | exact ltm_a3 (by with_reducible assumption) (by walk_at "mine down") | exact ltm_a4 (by with_reducible assumption) (by walk_at "mine down") | exact ltm_a5 (by with_reducible assumption) (by walk_at "mine down"))
  trivial
theorem fill14 : (hd.heap_1 = hd.heap_1) ∧ (PySem.Challenge.rw_pb0538_01 = PySem.Challenge.rw_pb0538_01) := by k_fill; exact ⟨rfl, rfl⟩
theorem rowsP14_1 : True := by
  k_with "mine cx" => exact ⟨by k_asm, by k_asm, by k_asm, by k_asm, by k_asm, by first | exact rfl | assumption⟩
  k_with "mine sub" => (first | exact fun _ h => h | exact sub_skip (fun _ h => h) | exact sub_skip (sub_skip (fun _ h => h)) | exact sub_skip (sub_skip (sub_skip (fun _ h => h))) | exact sub_skip (sub_skip (sub_skip (sub_skip (fun _ h => h)))) | exact sub_skip (sub_skip (sub_skip (sub_skip (sub_skip (fun _ h => h))))) | exact sub_skip (sub_skip (sub_skip (sub_skip (sub_skip (sub_skip (fun _ h => h)))))) | exact sub_keep (sub_skip (fun _ h => h)) | exact sub_keep (sub_skip (sub_skip (fun _ h => h))) | exact sub_keep (sub_skip (sub_skip (sub_skip (fun _ h => h)))) | exact sub_keep (sub_skip (sub_skip (sub_skip (sub_skip (fun _ h => h))))) | exact sub_keep (sub_skip (sub_skip (sub_skip (sub_skip (sub_skip (fun _ h => h)))))) | exact sub_keep (sub_skip (sub_skip (sub_skip (sub_skip (sub_skip (sub_skip (fun _ h => h))))))))
  k_with "mine priv" => (first | assumption | exact PrivAt.mono (by assumption) (by walk_at "mine sub"))
  k_with "mine dict" => (first | assumption | exact DictAt.mono (by assumption) (by walk_at "mine sub"))
  k_with "mine room" => ((try simp only [depth_under_make, depth_under_kw, depth_in1, depth_deeper, depth_caller, units_in1, units_deeper, Around.mark_units, units_caller]); (try dsimp only [ktrTop]); omega)
  k_with "k_all" => assumption
  k_with "k_mem" => (first | exact List.Mem.head _ | ktr_member | (refine' List.mem_cons_of_mem _ ?_; k_mem))
  k_with "call ref" => (k_here; (with_reducible show wpAny _ _ (call (Value.ref 180) _) _ _ _); k_dflt (refine' c_take ?zqcx ?zqd ?zqu ?zqne ?zqy1 ?zqy2 _ _ ?zqt1 ?zqt2 ?_; (case zqcx => walk_at "mine cx"); (case zqd => walk_at "mine room"); (case zqu => walk_at "mine room"); (case zqne => assumption); (case zqy1 => assumption); (case zqy2 => assumption); (case zqt1 => first | assumption | omega); (case zqt2 => first | assumption | omega)); intro d' u' h' tk' x' y' tx' ty' k' hd0' hd1' hy0' hy1' F' N'; (try dsimp only))
  trivial
theorem len_ints {prog : Program} {w : World} {A : Around} {E : Value → Shared → Prop} {s : Shared} {h₀ : Heap} {L D : Addr} {news : List (Addr × Obj)} {vs : List Value} {ns : List Int} {n : Nat} {Q : Value → Shared → Prop}
    (N : News h₀ L s.heap news) (hm : (D, listOf vs.toArray n) ∈ news) (hi : IntsAre vs ns) (hl : ns.length < 64) (h : Q (.int ns.length (s.toks + 1)) { s with toks := s.toks + 1 + 1 }) :
    wpAny (model prog w) A (call (.builtin "len") [.ref D]) Q E s :=
  kt_len_nums (h₀ := s.heap) ⟨vs, ⟨_, (N _ hm).1, rfl, n, rfl⟩, hi⟩ (fun _ _ e => e) (by omega) h
theorem at_in {ns : List Int} {d : Int} (h0 : 0 ≤ d) (h1 : d < ns.length) : ns.getD d.toNat 0 ∈ ns := by
  have h : d.toNat < ns.length := by omega
  rw [List.getD_eq_getElem?_getD, List.getElem?_eq_getElem h]
  exact List.getElem_mem h
theorem rowsP14_2 : True := by
  k_with "call builtin:len" => (k_here; k_dflt (refine len_ints (by k_asm) (by k_mem) (by assumption) (by assumption) ?_))
  k_with "subscriptTail" => (k_here; (with_reducible show wpAny _ _ (subscriptTail _ _ (Value.ref _) (Value.int _ _)) _ _ _); k_dflt (refine ksa_sub (by k_asm) (by k_mem) (by assumption) (by assumption) (by assumption) (by omega) ?_; intro t'))
  trivial
section
variable {w : World} {mean : ExcName → Option Value} {mg mb : Str → Option Value} {dp un : Nat} {gd : Option (List Code)} {cn : Str} {cs : Scope} {a : Addr} {ccd : Value} {cl : List (Str × Addr)} {outer : List Env} {A₀ : Around} {base h₀ : Heap} {L : Addr} {m : Str → Option Value} {s : Shared} {news : List (Addr × Obj)} {Q E : Value → Shared → Prop}
  {P kd pd od md : Addr} {DK : List (Int × Str)} {DP DH DM : List (Int × Int)}



theorem c_one {sd td : Addr} {rest : List (Addr × Obj)} {x y : Int} {tx ty : Tok} {k kk : Nat} {vs : List Value} {ns : List Int} (cx : Cx w mean mg mb outer A₀ base h₀ L m cs s.heap ((sd, srcOf x y tx ty k) :: rest)) (hd : dp + 2 ≤ 500) (hu : un + 20 ≤ 5000)
    (ne : ∀ q ∈ rest, q.1 ≠ sd) (hy : 0 ≤ y) (hy2 : y < 2147483647) (hm : (td, listOf vs.toArray kk) ∈ rest) (hi : IntsAre vs ns) (hl0 : 0 < ns.length) (hl1 : ns.length < 64)
    (ret : ∀ d u h' tk' x' y' tx' ty' k', d ∈ ns → 0 ≤ y' → y' < 2147483647 → Fr h₀ L h' m → News h₀ L h' ((sd, srcOf x' y' tx' ty' k') :: rest) → Q (.int d u) { s with heap := h', toks := tk' }) :
    wpAny (model PR w) (ktrTop dp un gd cn cs L a ccd cl outer) (call (.ref 187) [.ref sd, .ref td]) Q E s := by
  obtain ⟨B, F, X, N, T, hk⟩ := cx
  have hlv := hi.length
  refine wpAny_call ?_
  k_dflt ktr_enter
  k_steps
  exact ret _ _ _ _ _ _ _ _ _ (at_in (by assumption) (by assumption)) (by assumption) (by assumption) (by k_asm) (by k_asm)

theorem c_takeU {sd : Addr} {g : Obj → List (Addr × Obj)} {x y : Int} {tx ty : Tok} {k : Nat} (cx : Cx w mean mg mb outer A₀ base h₀ L m cs s.heap news) (U : UpdF sd (srcOf x y tx ty k) news g) (hd : dp + 1 ≤ 500) (hu : un + 10 ≤ 5000)
    (hy : 0 ≤ y) (hy2 : y < 2147483647) (top : Int) (t : Tok) (ht : 0 < top) (ht2 : top < 100)
    (ret : ∀ d u h' tk' x' y' tx' ty' k', 0 ≤ d → d < top → 0 ≤ y' → y' < 2147483647 → Fr h₀ L h' m → News h₀ L h' (g (srcOf x' y' tx' ty' k')) → Q (.int d u) { s with heap := h', toks := tk' }) :
    wpAny (model PR w) (ktrTop dp un gd cn cs L a ccd cl outer) (call (.ref 180) [.ref sd, .int top t]) Q E s := by
  obtain ⟨pre, post, e1, e2, n1, n2⟩ := U.split
  obtain ⟨B, F, X, N, T, hk⟩ := cx
  rw [e1] at N
  refine c_take (rest := pre ++ post) (x := x) (tx := tx) (ty := ty) (k := k) ⟨B, F, X, fun p hp => N p ?_, T, hk⟩ hd hu (fun q hq => (List.mem_append.mp hq).elim (n1 q) (n2 q)) hy hy2 top t ht ht2 fun d u h' tk' x' y' tx' ty' k' a1 a2 a3 a4 F' N' => ret d u h' tk' x' y' tx' ty' k' a1 a2 a3 a4 F' (fun p hp => N' p ?_)
  · simp only [List.mem_append, List.mem_cons] at hp ⊢
    rcases hp with h | h | h
    · exact .inr (.inl h)
    · exact .inl h
    · exact .inr (.inr h)
  · rw [e2] at hp
    simp only [List.mem_append, List.mem_cons] at hp ⊢
    rcases hp with h | h | h
    · exact .inr (.inl h)
    · exact .inl h
    · exact .inr (.inr h)
theorem c_oneU {sd td : Addr} {g : Obj → List (Addr × Obj)} {x y : Int} {tx ty : Tok} {k kk : Nat} {vs : List Value} {ns : List Int} (cx : Cx w mean mg mb outer A₀ base h₀ L m cs s.heap news) (U : UpdF sd (srcOf x y tx ty k) news g) (hd : dp + 2 ≤ 500) (hu : un + 20 ≤ 5000)
    (hy : 0 ≤ y) (hy2 : y < 2147483647) (hm : (td, listOf vs.toArray kk) ∈ news) (ne : @Ne Nat td sd) (hi : IntsAre vs ns) (hl0 : 0 < ns.length) (hl1 : ns.length < 64)
    (ret : ∀ d u h' tk' x' y' tx' ty' k', d ∈ ns → 0 ≤ y' → y' < 2147483647 → Fr h₀ L h' m → News h₀ L h' (g (srcOf x' y' tx' ty' k')) → Q (.int d u) { s with heap := h', toks := tk' }) :
    wpAny (model PR w) (ktrTop dp un gd cn cs L a ccd cl outer) (call (.ref 187) [.ref sd, .ref td]) Q E s := by
  obtain ⟨pre, post, e1, e2, n1, n2⟩ := U.split
  obtain ⟨B, F, X, N, T, hk⟩ := cx
  rw [e1] at N hm
  refine c_one (rest := pre ++ post) (td := td) (kk := kk) (x := x) (tx := tx) (ty := ty) (k := k) ⟨B, F, X, fun p hp => N p ?_, T, hk⟩ hd hu (fun q hq => (List.mem_append.mp hq).elim (n1 q) (n2 q)) hy hy2 ?_ hi hl0 hl1 fun d u h' tk' x' y' tx' ty' k' a1 a3 a4 F' N' => ret d u h' tk' x' y' tx' ty' k' a1 a3 a4 F' (fun p hp => N' p ?_)
  · simp only [List.mem_append, List.mem_cons] at hp ⊢
    rcases hp with h | h | h
    · exact .inr (.inl h)
    · exact .inl h
    · exact .inr (.inr h)
  · rcases List.mem_append.mp hm with h | h
    · exact List.mem_append.mpr (.inl h)
    · rcases List.mem_cons.mp h with h | h
      · exact absurd (congrArg Prod.fst h) ne
      · exact List.mem_append.mpr (.inr h)
  · rw [e2] at hp
    simp only [List.mem_append, List.mem_cons] at hp ⊢
    rcases hp with h | h | h
    · exact .inr (.inl h)
    · exact .inl h
    · exact .inr (.inr h)
end
end Mine
namespace Mine
theorem rowsP15_0 : True := by
  k_with_none
  k_with "mine down" => (first | exact fun _ h => h | (refine dn ?_; walk_at "mine down"))
  k_with "k_ne" => (first | with_reducible assumption | exact Ne.symm (by with_reducible assumption) | exact ltm_ne (by with_reducible assumption) (by k_mem) | exact ltm_en (by with_reducible assumption) (by k_mem) | exact Nat.ne_of_lt (by with_reducible assumption) | exact Nat.ne_of_gt (by with_reducible assumption) | exact ltm_c1 (by with_reducible assumption) (by k_mem) | exact ltm_d1 (by with_reducible assumption) (by k_mem) | exact ltm_c2 (by with_reducible assumption) (by k_mem) | exact ltm_d2 (by with_reducible assumption) (by k_mem) | exact ltm_c3 (by with_reducible assumption) (by k_mem) | exact ltm_d3 (by with_reducible assumption) (by k_mem) | exact ltm_c4 (by with_reducible assumption) (by k_mem) | exact ltm_d4 (by with_reducible assumption) (by k_mem) | exact ltm_c5 (by with_reducible assumption) (by k_mem) | exact ltm_d5 (by with_reducible assumption) (by k_mem) | (refine neN ?_; (try dsimp only); omega))
  k_with "k_all" => (first | exact ltm_all (by with_reducible assumption) (by walk_at "mine down") | exact ltm_a1 (by with_reducible assumption) (by walk_at "mine down") | exact ltm_a2 (by with_reducible assumption) (by walk_at "mine down") | exact ltm_a3 (by with_reducible assumption) (by walk_at "mine down") | exact ltm_a4 (by with_reducible assumption) (by walk_at "mine down") | exact ltm_a5 (by with_reducible assumption) (by walk_at "mine down"))
  trivial
theorem fill15 : (hd.heap_1 = hd.heap_1) ∧ (PySem.Challenge.rw_pb0538_01 = PySem.Challenge.rw_pb0538_01) := by k_fill; exact ⟨rfl, rfl⟩
theorem rowsP15_1 : True := by
  k_with "mine cx" => exact ⟨by k_asm, by k_asm, by k_asm, by k_asm, by k_asm, by first | exact rfl | assumption⟩
  k_with "mine sub" => (first | exact fun _ h => h | exact sub_skip (fun _ h => h) | exact sub_skip (sub_skip (fun _ h => h)) | exact sub_skip (sub_skip (sub_skip (fun _ h => h))) | exact sub_skip (sub_skip (sub_skip (sub_skip (fun _ h => h)))) | exact sub_skip (sub_skip (sub_skip (sub_skip (sub_skip (fun _ h => h))))) | exact sub_skip (sub_skip (sub_skip (sub_skip (sub_skip (sub_skip (fun _ h => h)))))) | exact sub_keep (sub_skip (fun _ h => h)) | exact sub_keep (sub_skip (sub_skip (fun _ h => h))) | exact sub_keep (sub_skip (sub_skip (sub_skip (fun _ h => h)))) | exact sub_keep (sub_skip (sub_skip (sub_skip (sub_skip (fun _ h => h))))) | exact sub_keep (sub_skip (sub_skip (sub_skip (sub_skip (sub_skip (fun _ h => h)))))) | exact sub_keep (sub_skip (sub_skip (sub_skip (sub_skip (sub_skip (sub_skip (fun _ h => h))))))))
  k_with "mine priv" => (first | assumption | exact PrivAt.mono (by assumption) (by walk_at "mine sub"))
  k_with "mine dict" => (first | assumption | exact DictAt.mono (by assumption) (by walk_at "mine sub"))
  k_with "mine room" => ((try simp only [depth_under_make, depth_under_kw, depth_in1, depth_deeper, depth_caller, units_in1, units_deeper, Around.mark_units, units_caller]); (try dsimp only [ktrTop]); omega)
  k_with "k_all" => assumption
  k_with "k_mem" => (first | exact List.Mem.head _ | ktr_member | (refine' List.mem_cons_of_mem _ ?_; k_mem))
  k_with "call ref" => (k_here; (with_reducible show wpAny _ _ (call (Value.ref 180) _) _ _ _); k_dflt (refine' c_take ?zqcx ?zqd ?zqu ?zqne ?zqy1 ?zqy2 _ _ ?zqt1 ?zqt2 ?_; (case zqcx => walk_at "mine cx"); (case zqd => walk_at "mine room"); (case zqu => walk_at "mine room"); (case zqne => assumption); (case zqy1 => assumption); (case zqy2 => assumption); (case zqt1 => first | assumption | omega); (case zqt2 => first | assumption | omega)); intro d' u' h' tk' x' y' tx' ty' k' hd0' hd1' hy0' hy1' F' N'; (try dsimp only))
  k_with "mine fresh" => (first | assumption | exact ltm_all (by with_reducible assumption) (by walk_at "mine down") | exact lt_ne (by assumption) | exact allLt_ne (by k_asm) | exact off1_mem (by k_asm) | (rename _ ∧ _ => o9; first | exact off1_mem o9.2 | exact off1_mem o9.2.2 | exact off1_mem o9.2.2.2 | exact allLt_ne o9.2 | exact allLt_ne o9.2.2 | exact allLt_ne o9.2.2.2))
  k_with "call ref" => (k_here; (with_reducible show wpAny _ _ (call (Value.ref 180) _) _ _ _); k_dflt (refine' c_takeU ?zqcx ?zqU ?zqd ?zqu ?zqy1 ?zqy2 _ _ ?zqt1 ?zqt2 ?_; (case zqcx => walk_at "mine cx"); (case zqU => k_updF); (case zqd => walk_at "mine room"); (case zqu => walk_at "mine room"); (case zqy1 => assumption); (case zqy2 => assumption); (case zqt1 => first | assumption | omega); (case zqt2 => first | assumption | omega)); intro d' u' h' tk' x' y' tx' ty' k' hd0' hd1' hy0' hy1' F' N'; (try dsimp only at N'); (try dsimp only))
  trivial
section
variable {w : World} {mean : ExcName → Option Value} {mg mb : Str → Option Value} {dp un : Nat} {gd : Option (List Code)} {cn : Str} {cs : Scope} {a : Addr} {ccd : Value} {cl : List (Str × Addr)} {outer : List Env} {A₀ : Around} {base h₀ : Heap} {L : Addr} {m : Str → Option Value} {s : Shared} {news : List (Addr × Obj)} {Q E : Value → Shared → Prop}
  {P kd pd od md : Addr} {DK : List (Int × Str)} {DP DH DM : List (Int × Int)}





theorem c_pool (cx : Cx w mean mg mb outer A₀ base h₀ L m cs s.heap news) (hd : dp + 2 ≤ 500) (hu : un + 20 ≤ 5000) {sc : Addr} {vs : List Value} {ns : List Int} (hl : h₀.IsList sc vs.toArray) (hi : IntsAre vs ns) (hl1 : ns.length < 64) (t : Tok)
    (ret : ∀ l h' tk' x y tx ty k, 0 ≤ y → y < 2147483647 → Fr h₀ L h' m → News h₀ L h' ((l, srcOf x y tx ty k) :: news) → (∀ q ∈ news, @Ne Nat q.1 l) → Q (.ref l) { s with heap := h', toks := tk' }) :
    wpAny (model PR w) (ktrTop dp un gd cn cs L a ccd cl outer) (call (.ref 173) [.ref sc, .int 0 t]) Q E s := by
  obtain ⟨B, F, X, N, T, hk⟩ := cx
  have hlv := hi.length
  refine wpAny_call ?_
  k_dflt ktr_enter
  rename Fr h₀ L _ m => FG
  have hl9 := hl.at fun o e => FG.keep _ _ e
  k_steps
  · exact ret _ _ _ _ _ _ _ _ (fm0 _ (by decide)) (fm1 _ (by decide)) (by k_asm) (by k_asm) (by walk_at "mine fresh")
  · exact ret _ _ _ _ _ _ _ _ (fm0 _ (by decide)) (fm1 _ (by decide)) (by k_asm) (by k_asm) (by walk_at "mine fresh")

theorem c_take2 {sd : Addr} {g : Obj → List (Addr × Obj)} {x y : Int} {tx ty : Tok} {k : Nat} (cx : Cx w mean mg mb outer A₀ base h₀ L m cs s.heap news) (U : UpdF sd (srcOf x y tx ty k) news g) (hd : dp + 1 ≤ 500) (hu : un + 10 ≤ 5000)
    (hy : 0 ≤ y) (hy2 : y < 2147483647) (t : Tok)
    (r0 : ∀ u h' tk' x' y' tx' ty' k', 0 ≤ y' → y' < 2147483647 → Fr h₀ L h' m → News h₀ L h' (g (srcOf x' y' tx' ty' k')) → Q (.int 0 u) { s with heap := h', toks := tk' })
    (r1 : ∀ u h' tk' x' y' tx' ty' k', 0 ≤ y' → y' < 2147483647 → Fr h₀ L h' m → News h₀ L h' (g (srcOf x' y' tx' ty' k')) → Q (.int 1 u) { s with heap := h', toks := tk' }) :
    wpAny (model PR w) (ktrTop dp un gd cn cs L a ccd cl outer) (call (.ref 180) [.ref sd, .int 2 t]) Q E s := by
  refine c_takeU cx U hd hu hy hy2 2 t (by decide) (by decide) fun d u h' tk' x' y' tx' ty' k' a1 a2 a3 a4 F' N' => ?_
  rcases (show d = 0 ∨ d = 1 by omega) with rfl | rfl
  · exact r0 u h' tk' x' y' tx' ty' k' a3 a4 F' N'
  · exact r1 u h' tk' x' y' tx' ty' k' a3 a4 F' N'
theorem rowsP15_2 : True := by
  k_with "call ref" => (k_here; (with_reducible show wpAny _ _ (call (Value.ref 180) [_, Value.int 2 _]) _ _ _); k_dflt (refine' c_take2 ?zqcx ?zqU ?zqd ?zqu ?zqy1 ?zqy2 _ ?_ ?_; (case zqcx => walk_at "mine cx"); (case zqU => k_updF); (case zqd => walk_at "mine room"); (case zqu => walk_at "mine room"); (case zqy1 => assumption); (case zqy2 => assumption)); (all_goals (intro u' h' tk' x' y' tx' ty' k' hy0' hy1' F' N'; (try dsimp only at N'); (try dsimp only))))
  trivial
theorem c_take3 {sd : Addr} {g : Obj → List (Addr × Obj)} {x y : Int} {tx ty : Tok} {k : Nat} (cx : Cx w mean mg mb outer A₀ base h₀ L m cs s.heap news) (U : UpdF sd (srcOf x y tx ty k) news g) (hd : dp + 1 ≤ 500) (hu : un + 10 ≤ 5000)
    (hy : 0 ≤ y) (hy2 : y < 2147483647) (t : Tok)
    (r0 : ∀ u h' tk' x' y' tx' ty' k', 0 ≤ y' → y' < 2147483647 → Fr h₀ L h' m → News h₀ L h' (g (srcOf x' y' tx' ty' k')) → Q (.int 0 u) { s with heap := h', toks := tk' })
    (r1 : ∀ u h' tk' x' y' tx' ty' k', 0 ≤ y' → y' < 2147483647 → Fr h₀ L h' m → News h₀ L h' (g (srcOf x' y' tx' ty' k')) → Q (.int 1 u) { s with heap := h', toks := tk' })
    (r2 : ∀ u h' tk' x' y' tx' ty' k', 0 ≤ y' → y' < 2147483647 → Fr h₀ L h' m → News h₀ L h' (g (srcOf x' y' tx' ty' k')) → Q (.int 2 u) { s with heap := h', toks := tk' }) :
    wpAny (model PR w) (ktrTop dp un gd cn cs L a ccd cl outer) (call (.ref 180) [.ref sd, .int 3 t]) Q E s := by
  refine c_takeU cx U hd hu hy hy2 3 t (by decide) (by decide) fun d u h' tk' x' y' tx' ty' k' a1 a2 a3 a4 F' N' => ?_
  rcases (show d = 0 ∨ d = 1 ∨ d = 2 by omega) with rfl | rfl | rfl
  · exact r0 u h' tk' x' y' tx' ty' k' a3 a4 F' N'
  · exact r1 u h' tk' x' y' tx' ty' k' a3 a4 F' N'
  · exact r2 u h' tk' x' y' tx' ty' k' a3 a4 F' N'
theorem rowsP15_3 : True := by
  k_with "call ref" => (k_here; (with_reducible show wpAny _ _ (call (Value.ref 180) [_, Value.int 3 _]) _ _ _); k_dflt (refine' c_take3 ?zqcx ?zqU ?zqd ?zqu ?zqy1 ?zqy2 _ ?_ ?_ ?_; (case zqcx => walk_at "mine cx"); (case zqU => k_updF); (case zqd => walk_at "mine room"); (case zqu => walk_at "mine room"); (case zqy1 => assumption); (case zqy2 => assumption)); (all_goals (intro u' h' tk' x' y' tx' ty' k' hy0' hy1' F' N'; (try dsimp only at N'); (try dsimp only))))
  trivial
end
end Mine
namespace Mine
theorem rowsP16_0 : True := by
  k_with_none
  k_with "mine down" => (first | exact fun _ h => h | (refine dn ?_; walk_at "mine down"))
  k_with "k_ne" => (first | with_reducible assumption | exact Ne.symm (by with_reducible assumption) | exact ltm_ne (by with_reducible assumption) (by k_mem) | exact ltm_en (by with_reducible assumption) (by k_mem) | exact Nat.ne_of_lt (by with_reducible assumption) | exact Nat.ne_of_gt (by with_reducible assumption) | exact ltm_c1 (by with_reducible assumption) (by k_mem) | exact ltm_d1 (by with_reducible assumption) (by k_mem) | exact ltm_c2 (by with_reducible assumption) (by k_mem) | exact ltm_d2 (by with_reducible assumption) (by k_mem) | exact ltm_c3 (by with_reducible assumption) (by k_mem) | exact ltm_d3 (by with_reducible assumption) (by k_mem) | exact ltm_c4 (by with_reducible assumption) (by k_mem) | exact ltm_d4 (by with_reducible assumption) (by k_mem) | exact ltm_c5 (by with_reducible assumption) (by k_mem) | exact ltm_d5 (by with_reducible assumption) (by k_mem) | (refine neN ?_; (try dsimp only); omega))
  k_with "k_all" => (first | exact ltm_all (by with_reducible assumption) (by walk_at "mine down") | exact ltm_a1 (by with_reducible assumption) (by walk_at "mine down") | exact ltm_a2 (by with_reducible assumption) (by walk_at "mine down") | exact ltm_a3 (by with_reducible assumption) (by walk_at "mine down") | exact ltm_a4 (by with_reducible assumption) (by walk_at "mine down") | exact ltm_a5 (by with_reducible assumption) (by walk_at "mine down"))
  trivial
theorem fill16 : (hd.heap_1 = hd.heap_1) ∧ (PySem.Challenge.rw_pb0538_01 = PySem.Challenge.rw_pb0538_01) := by k_fill; exact ⟨rfl, rfl⟩
theorem rowsP16_1 : True := by
  k_with "mine cx" => exact ⟨by k_asm, by k_asm, by k_asm, by k_asm, by k_asm, by first | exact rfl | assumption⟩
  k_with "mine sub" => (first | exact fun _ h => h | exact sub_skip (fun _ h => h) | exact sub_skip (sub_skip (fun _ h => h)) | exact sub_skip (sub_skip (sub_skip (fun _ h => h))) | exact sub_skip (sub_skip (sub_skip (sub_skip (fun _ h => h)))) | exact sub_skip (sub_skip (sub_skip (sub_skip (sub_skip (fun _ h => h))))) | exact sub_skip (sub_skip (sub_skip (sub_skip (sub_skip (sub_skip (fun _ h => h)))))) | exact sub_keep (sub_skip (fun _ h => h)) | exact sub_keep (sub_skip (sub_skip (fun _ h => h))) | exact sub_keep (sub_skip (sub_skip (sub_skip (fun _ h => h)))) | exact sub_keep (sub_skip (sub_skip (sub_skip (sub_skip (fun _ h => h))))) | exact sub_keep (sub_skip (sub_skip (sub_skip (sub_skip (sub_skip (fun _ h => h)))))) | exact sub_keep (sub_skip (sub_skip (sub_skip (sub_skip (sub_skip (sub_skip (fun _ h => h))))))))
  k_with "mine priv" => (first | assumption | exact PrivAt.mono (by assumption) (by walk_at "mine sub"))
  k_with "mine dict" => (first | assumption | exact DictAt.mono (by assumption) (by walk_at "mine sub"))
  k_with "mine room" => ((try simp only [depth_under_make, depth_under_kw, depth_in1, depth_deeper, depth_caller, units_in1, units_deeper, Around.mark_units, units_caller]); (try dsimp only [ktrTop]); omega)
  k_with "k_all" => assumption
  k_with "k_mem" => (first | exact List.Mem.head _ | ktr_member | (refine' List.mem_cons_of_mem _ ?_; k_mem))
  k_with "call ref" => (k_here; (with_reducible show wpAny _ _ (call (Value.ref 180) _) _ _ _); k_dflt (refine' c_take ?zqcx ?zqd ?zqu ?zqne ?zqy1 ?zqy2 _ _ ?zqt1 ?zqt2 ?_; (case zqcx => walk_at "mine cx"); (case zqd => walk_at "mine room"); (case zqu => walk_at "mine room"); (case zqne => assumption); (case zqy1 => assumption); (case zqy2 => assumption); (case zqt1 => first | assumption | omega); (case zqt2 => first | assumption | omega)); intro d' u' h' tk' x' y' tx' ty' k' hd0' hd1' hy0' hy1' F' N'; (try dsimp only))
  k_with "mine fresh" => (first | assumption | exact ltm_all (by with_reducible assumption) (by walk_at "mine down") | exact lt_ne (by assumption) | exact allLt_ne (by k_asm) | exact off1_mem (by k_asm) | (rename _ ∧ _ => o9; first | exact off1_mem o9.2 | exact off1_mem o9.2.2 | exact off1_mem o9.2.2.2 | exact allLt_ne o9.2 | exact allLt_ne o9.2.2 | exact allLt_ne o9.2.2.2))
  k_with "call ref" => (k_here; (with_reducible show wpAny _ _ (call (Value.ref 180) _) _ _ _); k_dflt (refine' c_takeU ?zqcx ?zqU ?zqd ?zqu ?zqy1 ?zqy2 _ _ ?zqt1 ?zqt2 ?_; (case zqcx => walk_at "mine cx"); (case zqU => k_updF); (case zqd => walk_at "mine room"); (case zqu => walk_at "mine room"); (case zqy1 => assumption); (case zqy2 => assumption); (case zqt1 => first | assumption | omega); (case zqt2 => first | assumption | omega)); intro d' u' h' tk' x' y' tx' ty' k' hd0' hd1' hy0' hy1' F' N'; (try dsimp only at N'); (try dsimp only))
  k_with "call ref" => (k_here; (with_reducible show wpAny _ _ (call (Value.ref 180) [_, Value.int 2 _]) _ _ _); k_dflt (refine' c_take2 ?zqcx ?zqU ?zqd ?zqu ?zqy1 ?zqy2 _ ?_ ?_; (case zqcx => walk_at "mine cx"); (case zqU => k_updF); (case zqd => walk_at "mine room"); (case zqu => walk_at "mine room"); (case zqy1 => assumption); (case zqy2 => assumption)); (all_goals (intro u' h' tk' x' y' tx' ty' k' hy0' hy1' F' N'; (try dsimp only at N'); (try dsimp only))))
  k_with "call ref" => (k_here; (with_reducible show wpAny _ _ (call (Value.ref 180) [_, Value.int 3 _]) _ _ _); k_dflt (refine' c_take3 ?zqcx ?zqU ?zqd ?zqu ?zqy1 ?zqy2 _ ?_ ?_ ?_; (case zqcx => walk_at "mine cx"); (case zqU => k_updF); (case zqd => walk_at "mine room"); (case zqu => walk_at "mine room"); (case zqy1 => assumption); (case zqy2 => assumption)); (all_goals (intro u' h' tk' x' y' tx' ty' k' hy0' hy1' F' N'; (try dsimp only at N'); (try dsimp only))))
  trivial
abbrev tupO (l : List Value) : Obj := { cls := .type "tuple", data := .seq l.toArray }
/-- a row of a family: (vlan, kind) -/
def RowAt (news : List (Addr × Obj)) (u : Addr) (v : Int) (k : Str) : Prop := ∃ t1 t2, (u, tupO [.int v t1, .str k t2]) ∈ news
inductive RowsIn (news : List (Addr × Obj)) : List Value → List (Int × Str) → Prop
  | nil : RowsIn news [] []
  | cons {u v k us r} : RowAt news u v k → RowsIn news us r → RowsIn news (.ref u :: us) ((v, k) :: r)
def RowsAt (news : List (Addr × Obj)) (r : Addr) (R : List (Int × Str)) : Prop := ∃ us n, (r, listOf (List.toArray us) n) ∈ news ∧ RowsIn news us R
def FamAt (news : List (Addr × Obj)) (f : Addr) (R1 R2 : List (Int × Str)) : Prop :=
  ∃ n a1 a2 r1 r2 t1 t2, (f, listOf #[.ref a1, .ref a2] n) ∈ news ∧ (a1, tupO [.int 100 t1, .ref r1]) ∈ news ∧ (a2, tupO [.int 200 t2, .ref r2]) ∈ news ∧ RowsAt news r1 R1 ∧ RowsAt news r2 R2
theorem RowsIn.mono {a b : List (Addr × Obj)} (h : ∀ p ∈ a, p ∈ b) {us : List Value} {R : List (Int × Str)} (x : RowsIn a us R) : RowsIn b us R := by
  induction x with
  | nil => exact .nil
  | cons q _ ih => obtain ⟨t1, t2, m⟩ := q; exact .cons ⟨t1, t2, h _ m⟩ ih
theorem FamAt.mono {a b : List (Addr × Obj)} {f : Addr} {R1 R2 : List (Int × Str)} (x : FamAt a f R1 R2) (h : ∀ p ∈ a, p ∈ b) : FamAt b f R1 R2 := by
  obtain ⟨n, a1, a2, r1, r2, t1, t2, m1, m2, m3, ⟨us, k, m4, q⟩, us', k', m5, q'⟩ := x
  exact ⟨n, a1, a2, r1, r2, t1, t2, h _ m1, h _ m2, h _ m3, ⟨us, k, h _ m4, q.mono h⟩, us', k', h _ m5, q'.mono h⟩
/-- an entry pulled out of a ledger -/
inductive Pull (d : Addr) (o : Obj) : List (Addr × Obj) → List (Addr × Obj) → Prop
  | head {r} : Pull d o ((d, o) :: r) r
  | tail {p r r'} : Pull d o r r' → Pull d o (p :: r) (p :: r')
theorem Pull.news {d : Addr} {o : Obj} {a b : List (Addr × Obj)} {h₀ h : Heap} {L : Addr} (x : Pull d o a b) (N : News h₀ L h a) : News h₀ L h ((d, o) :: b) := by
  induction x with
  | head => exact N
  | tail y ih =>
    have z := ih fun p hp => N p (.tail _ hp)
    intro q hq
    rcases List.mem_cons.mp hq with rfl | hq
    · exact z _ (.head _)
    · rcases List.mem_cons.mp hq with rfl | hq
      · exact N _ (.head _)
      · exact z _ (.tail _ hq)
theorem pull_of {d : Addr} {o : Obj} {a b : List (Addr × Obj)} {h₀ h : Heap} {L : Addr} (N : News h₀ L h a) (x : Pull d o a b) : News h₀ L h ((d, o) :: b) := x.news N
theorem pull_two {d d2 : Addr} {o o2 : Obj} {a b c : List (Addr × Obj)} {h₀ h : Heap} {L : Addr} (N : News h₀ L h a) (x : Pull d o a b) (y : Pull d2 o2 b c) : News h₀ L h ((d, o) :: (d2, o2) :: c) := by
  have z := x.news N
  have z2 := y.news (fun p hp => z p (.tail _ hp))
  intro q hq
  rcases List.mem_cons.mp hq with rfl | hq
  · exact z _ (.head _)
  · exact z2 _ hq
/-- the rows of the first family and of the second -/
def R1s : List (List (Int × Str)) := [[(101, "isolated")], [(101, "isolated"), (102, "community")], [(101, "isolated"), (102, "community"), (103, "community")]]
def R2s : List (List (Int × Str)) := [[], [(201, "community")]]
theorem sub_o {p : Addr × Obj} {x y : List (Addr × Obj)} (h : ∀ q ∈ x, q ∈ y) : ∀ q ∈ x, q ∈ p :: y := fun q hq => .tail _ (h q hq)
theorem rowsP16_2 : True := by
  k_with "mine sub2" => (first | exact fun _ h => h | (refine sub_o ?_; walk_at "mine sub2"))
  k_with "mine pull" => (repeat' (first | exact Pull.head | refine' Pull.tail ?_))
  k_with "mine in" => (first | exact List.Mem.head _ | (refine' List.Mem.tail _ ?_; walk_at "mine in"))
  k_with "mine rows" => (first | exact RowsIn.nil | (refine' RowsIn.cons ⟨_, _, ?zqm⟩ ?_; (case zqm => walk_at "mine in"); walk_at "mine rows"))
  k_with "mine off" => (first | assumption | (refine List.forall_mem_cons.mpr ⟨by k_ne, ?_⟩; walk_at "mine off"))
  k_with "mine fam" => (refine' ⟨_, _, _, _, _, _, _, ?zqm1, ?zqm2, ?zqm3, ⟨_, _, ?zqm4, ?zqm5⟩, _, _, ?zqm6, ?zqm7⟩; (case zqm1 => walk_at "mine in"); (case zqm2 => walk_at "mine in"); (case zqm3 => walk_at "mine in"); (case zqm4 => walk_at "mine in"); (case zqm5 => walk_at "mine rows"); (case zqm6 => walk_at "mine in"); (case zqm7 => walk_at "mine rows"))
  trivial
section
variable {w : World} {mean : ExcName → Option Value} {mg mb : Str → Option Value} {dp un : Nat} {gd : Option (List Code)} {cn : Str} {cs : Scope} {a : Addr} {ccd : Value} {cl : List (Str × Addr)} {outer : List Env} {A₀ : Around} {base h₀ : Heap} {L : Addr} {m : Str → Option Value} {s : Shared} {news : List (Addr × Obj)} {Q E : Value → Shared → Prop}
  {P kd pd od md : Addr} {DK : List (Int × Str)} {DP DH DM : List (Int × Int)}







theorem c_families {sd c : Addr} {oc : Obj} {rest : List (Addr × Obj)} {x y : Int} {tx ty : Tok} {k : Nat} (cx : Cx w mean mg mb outer A₀ base h₀ L m cs s.heap ((sd, srcOf x y tx ty k) :: (c, oc) :: rest)) (hd : dp + 3 ≤ 500) (hu : un + 30 ≤ 5000)
    (nc : @Ne Nat c sd) (ne : ∀ q ∈ rest, q.1 ≠ sd) (ne2 : ∀ q ∈ rest, @Ne Nat q.1 c) (hy : 0 ≤ y) (hy2 : y < 2147483647)
    (ret : ∀ f h' tk' x' y' tx' ty' k' rest' R1 R2, 0 ≤ y' → y' < 2147483647 → R1 ∈ R1s → R2 ∈ R2s → Fr h₀ L h' m → News h₀ L h' ((sd, srcOf x' y' tx' ty' k') :: (c, oc) :: rest') → FamAt rest' f R1 R2 → (∀ q ∈ rest', @Ne Nat q.1 sd) → (∀ q ∈ rest', @Ne Nat q.1 c) → (∀ q ∈ rest, q ∈ rest') → Q (.ref f) { s with heap := h', toks := tk' }) :
    wpAny (model PR w) (ktrTop dp un gd cn cs L a ccd cl outer) (call (.ref 201) [.ref sd]) Q E s := by
  obtain ⟨B, F, X, N, T, hk⟩ := cx
  have ne' : ∀ q ∈ (c, oc) :: rest, q.1 ≠ sd := List.forall_mem_cons.mpr ⟨nc, ne⟩
  refine wpAny_call ?_
  k_dflt ktr_enter
  k_steps
  all_goals (rename News _ _ _ _ => N9)
  all_goals (have N10 := pull_two (d := sd) (d2 := c) N9 (by walk_at "mine pull") (by walk_at "mine pull"))
  · exact ret _ _ _ _ _ _ _ _ _ [(101, "isolated")] [] (by assumption) (by assumption) (by decide) (by decide) (by k_asm) N10 (by walk_at "mine fam") (by walk_at "mine off") (by walk_at "mine off") (by walk_at "mine sub2")
  · exact ret _ _ _ _ _ _ _ _ _ [(101, "isolated")] [(201, "community")] (by assumption) (by assumption) (by decide) (by decide) (by k_asm) N10 (by walk_at "mine fam") (by walk_at "mine off") (by walk_at "mine off") (by walk_at "mine sub2")
  · exact ret _ _ _ _ _ _ _ _ _ [(101, "isolated"), (102, "community")] [] (by assumption) (by assumption) (by decide) (by decide) (by k_asm) N10 (by walk_at "mine fam") (by walk_at "mine off") (by walk_at "mine off") (by walk_at "mine sub2")
  · exact ret _ _ _ _ _ _ _ _ _ [(101, "isolated"), (102, "community")] [(201, "community")] (by assumption) (by assumption) (by decide) (by decide) (by k_asm) N10 (by walk_at "mine fam") (by walk_at "mine off") (by walk_at "mine off") (by walk_at "mine sub2")
  · exact ret _ _ _ _ _ _ _ _ _ [(101, "isolated"), (102, "community"), (103, "community")] [] (by assumption) (by assumption) (by decide) (by decide) (by k_asm) N10 (by walk_at "mine fam") (by walk_at "mine off") (by walk_at "mine off") (by walk_at "mine sub2")
  · exact ret _ _ _ _ _ _ _ _ _ [(101, "isolated"), (102, "community"), (103, "community")] [(201, "community")] (by assumption) (by assumption) (by decide) (by decide) (by k_asm) N10 (by walk_at "mine fam") (by walk_at "mine off") (by walk_at "mine off") (by walk_at "mine sub2")
end
end Mine
namespace Mine
theorem rowsP17_0 : True := by
  k_with_none
  k_with "mine down" => (first | exact fun _ h => h | (refine dn ?_; walk_at "mine down"))
  k_with "k_ne" => (first | with_reducible assumption | exact Ne.symm (by with_reducible assumption) | exact ltm_ne (by with_reducible assumption) (by k_mem) | exact ltm_en (by with_reducible assumption) (by k_mem) | exact Nat.ne_of_lt (by with_reducible assumption) | exact Nat.ne_of_gt (by with_reducible assumption) | exact ltm_c1 (by with_reducible assumption) (by k_mem) | exact ltm_d1 (by with_reducible assumption) (by k_mem) | exact ltm_c2 (by with_reducible assumption) (by k_mem) | exact ltm_d2 (by with_reducible assumption) (by k_mem) | exact ltm_c3 (by with_reducible assumption) (by k_mem) | exact ltm_d3 (by with_reducible assumption) (by k_mem) | exact ltm_c4 (by with_reducible assumption) (by k_mem) | exact ltm_d4 (by with_reducible assumption) (by k_mem) | exact ltm_c5 (by with_reducible assumption) (by k_mem) | exact ltm_d5 (by with_reducible assumption) (by k_mem) | (refine neN ?_; (try dsimp only); omega))
  k_with "k_all" => (first | exact ltm_all (by with_reducible assumption) (by walk_at "mine down") | exact ltm_a1 (by with_reducible assumption) (by walk_at "mine down") | exact ltm_a2 (by with_reducible assumption) (by walk_at "mine down") | exact ltm_a3 (by with_reducible assumption) (by walk_at "mine down") | exact ltm_a4 (by with_reducible assumption) (by walk_at "mine down") | exact ltm_a5 (by with_reducible assumption) (by walk_at "mine down"))
  trivial
theorem fill17 : (hd.heap_1 = hd.heap_1) ∧ (PySem.Challenge.rw_pb0538_01 = PySem.Challenge.rw_pb0538_01) := by k_fill; exact ⟨rfl, rfl⟩
theorem rowsP17_1 : True := by
  k_with "mine cx" => exact ⟨by k_asm, by k_asm, by k_asm, by k_asm, by k_asm, by first | exact rfl | assumption⟩
  k_with "mine sub" => (first | exact fun _ h => h | exact sub_skip (fun _ h => h) | exact sub_skip (sub_skip (fun _ h => h)) | exact sub_skip (sub_skip (sub_skip (fun _ h => h))) | exact sub_skip (sub_skip (sub_skip (sub_skip (fun _ h => h)))) | exact sub_skip (sub_skip (sub_skip (sub_skip (sub_skip (fun _ h => h))))) | exact sub_skip (sub_skip (sub_skip (sub_skip (sub_skip (sub_skip (fun _ h => h)))))) | exact sub_keep (sub_skip (fun _ h => h)) | exact sub_keep (sub_skip (sub_skip (fun _ h => h))) | exact sub_keep (sub_skip (sub_skip (sub_skip (fun _ h => h)))) | exact sub_keep (sub_skip (sub_skip (sub_skip (sub_skip (fun _ h => h))))) | exact sub_keep (sub_skip (sub_skip (sub_skip (sub_skip (sub_skip (fun _ h => h)))))) | exact sub_keep (sub_skip (sub_skip (sub_skip (sub_skip (sub_skip (sub_skip (fun _ h => h))))))))
  k_with "mine priv" => (first | assumption | exact PrivAt.mono (by assumption) (by walk_at "mine sub"))
  k_with "mine dict" => (first | assumption | exact DictAt.mono (by assumption) (by walk_at "mine sub"))
  k_with "mine room" => ((try simp only [depth_under_make, depth_under_kw, depth_in1, depth_deeper, depth_caller, units_in1, units_deeper, Around.mark_units, units_caller]); (try dsimp only [ktrTop]); omega)
  k_with "k_all" => assumption
  k_with "k_mem" => (first | exact List.Mem.head _ | ktr_member | (refine' List.mem_cons_of_mem _ ?_; k_mem))
  k_with "call ref" => (k_here; (with_reducible show wpAny _ _ (call (Value.ref 180) _) _ _ _); k_dflt (refine' c_take ?zqcx ?zqd ?zqu ?zqne ?zqy1 ?zqy2 _ _ ?zqt1 ?zqt2 ?_; (case zqcx => walk_at "mine cx"); (case zqd => walk_at "mine room"); (case zqu => walk_at "mine room"); (case zqne => assumption); (case zqy1 => assumption); (case zqy2 => assumption); (case zqt1 => first | assumption | omega); (case zqt2 => first | assumption | omega)); intro d' u' h' tk' x' y' tx' ty' k' hd0' hd1' hy0' hy1' F' N'; (try dsimp only))
  k_with "mine fresh" => (first | assumption | exact ltm_all (by with_reducible assumption) (by walk_at "mine down") | exact lt_ne (by assumption) | exact allLt_ne (by k_asm) | exact off1_mem (by k_asm) | (rename _ ∧ _ => o9; first | exact off1_mem o9.2 | exact off1_mem o9.2.2 | exact off1_mem o9.2.2.2 | exact allLt_ne o9.2 | exact allLt_ne o9.2.2 | exact allLt_ne o9.2.2.2))
  k_with "call ref" => (k_here; (with_reducible show wpAny _ _ (call (Value.ref 180) _) _ _ _); k_dflt (refine' c_takeU ?zqcx ?zqU ?zqd ?zqu ?zqy1 ?zqy2 _ _ ?zqt1 ?zqt2 ?_; (case zqcx => walk_at "mine cx"); (case zqU => k_updF); (case zqd => walk_at "mine room"); (case zqu => walk_at "mine room"); (case zqy1 => assumption); (case zqy2 => assumption); (case zqt1 => first | assumption | omega); (case zqt2 => first | assumption | omega)); intro d' u' h' tk' x' y' tx' ty' k' hd0' hd1' hy0' hy1' F' N'; (try dsimp only at N'); (try dsimp only))
  k_with "call ref" => (k_here; (with_reducible show wpAny _ _ (call (Value.ref 180) [_, Value.int 2 _]) _ _ _); k_dflt (refine' c_take2 ?zqcx ?zqU ?zqd ?zqu ?zqy1 ?zqy2 _ ?_ ?_; (case zqcx => walk_at "mine cx"); (case zqU => k_updF); (case zqd => walk_at "mine room"); (case zqu => walk_at "mine room"); (case zqy1 => assumption); (case zqy2 => assumption)); (all_goals (intro u' h' tk' x' y' tx' ty' k' hy0' hy1' F' N'; (try dsimp only at N'); (try dsimp only))))
  k_with "call ref" => (k_here; (with_reducible show wpAny _ _ (call (Value.ref 180) [_, Value.int 3 _]) _ _ _); k_dflt (refine' c_take3 ?zqcx ?zqU ?zqd ?zqu ?zqy1 ?zqy2 _ ?_ ?_ ?_; (case zqcx => walk_at "mine cx"); (case zqU => k_updF); (case zqd => walk_at "mine room"); (case zqu => walk_at "mine room"); (case zqy1 => assumption); (case zqy2 => assumption)); (all_goals (intro u' h' tk' x' y' tx' ty' k' hy0' hy1' F' N'; (try dsimp only at N'); (try dsimp only))))
  k_with "mine pull" => (repeat' (first | exact Pull.head | refine' Pull.tail ?_))
  k_with "mine in" => (first | exact List.Mem.head _ | (refine' List.Mem.tail _ ?_; walk_at "mine in"))
  k_with "mine rows" => (first | exact RowsIn.nil | (refine' RowsIn.cons ⟨_, _, ?zqm⟩ ?_; (case zqm => walk_at "mine in"); walk_at "mine rows"))
  k_with "mine off" => (first | assumption | (refine List.forall_mem_cons.mpr ⟨by k_ne, ?_⟩; walk_at "mine off"))
  k_with "mine fam" => (refine' ⟨_, _, _, _, _, _, _, ?zqm1, ?zqm2, ?zqm3, ⟨_, _, ?zqm4, ?zqm5⟩, _, _, ?zqm6, ?zqm7⟩; (case zqm1 => walk_at "mine in"); (case zqm2 => walk_at "mine in"); (case zqm3 => walk_at "mine in"); (case zqm4 => walk_at "mine in"); (case zqm5 => walk_at "mine rows"); (case zqm6 => walk_at "mine in"); (case zqm7 => walk_at "mine rows"))
  trivial
section
variable {prog : Program} {w : World} {A : Around} {E : Value → Shared → Prop} {s : Shared} {env : Env} {h₀ : Heap} {target : Expr} {body : List Stmt} {Q : Flow → Shared → Prop}
theorem overlay (stored : List Str) (m : Str → Option Value) : (fun z => if stored.contains z = true then m z else m z) = m := funext fun z => by split <;> rfl
theorem overlay_of {stored : List Str} {m m₀ : Str → Option Value} (h : ∀ z, stored.contains z = false → m z = m₀ z) : m = fun z => if stored.contains z = true then m z else m₀ z := funext fun z => by
  cases e : stored.contains z with
  | false => rw [if_neg (by decide)]; exact h z e
  | true => rw [if_pos rfl]
end
section
variable {prog : Program} {w : World} {A : Around} {E : Value → Shared → Prop} {s : Shared} {env : Env} {h₀ : Heap} {target : Expr} {body : List Stmt} {Q : Flow → Shared → Prop}
/-- a loop whose turns change the ledger: by an invariant over the turn's number -/
theorem items_inv {I : Addr} {cls : String} {keep : List (Addr × Obj)} (stored : List Str) (m₀ : Str → Option Value) (J : Nat → List (Addr × Obj) → Prop) (hk : ∀ i nx, J i nx → SubL keep nx) (xs : List Itm)
    (step : ∀ i x nx v (u : Str → Option Value) h tk o, xs[i]? = some x → J i nx → o.cls = .type cls → x.Is v h → Fr h₀ env.locals h (fun z => if stored.contains z = true then u z else m₀ z) → News h₀ env.locals h ((I, o) :: nx) →
      wpAny (model prog w) A (assign target env v) (fun _ s₂ => wpAny (model prog w) A (execs body env) (UnrPostW h₀ env.locals { s with heap := h, toks := tk } [(I, o)] (fun m' n' => J (i + 1) n' ∧ ∀ z, stored.contains z = false → m' z = m₀ z) Q) E s₂) E { s with heap := h, toks := tk })
    (done : ∀ nx (u : Str → Option Value) h tk, J xs.length nx → Fr h₀ env.locals h (fun z => if stored.contains z = true then u z else m₀ z) → News h₀ env.locals h nx → Q .next { s with heap := h, toks := tk }) :
    ∀ (n i : Nat) (m : Str → Option Value) (nx : List (Addr × Obj)), i + n = xs.length → J i nx → (∀ z, stored.contains z = false → m z = m₀ z) →
      ItemsRest prog w A E h₀ env target body Q s [(I, cls)] keep (xs.drop i) m nx := by
  intro n
  induction n with
  | zero =>
    intro i m nx hi hJ hm
    rw [List.drop_eq_nil_of_le (by omega)]
    have e : i = xs.length := by omega
    subst e
    exact ItemsRest.zero fun h tk F N => done nx m h tk hJ (overlay_of hm ▸ F) N
  | succ n ih =>
    intro i m nx hi hJ hm
    have hlt : i < xs.length := by omega
    rw [List.drop_eq_getElem_cons hlt]
    intro v h tk hv F
    refine AllObj.cons fun o ho => AllObj.nil fun N => ?_
    refine wpAny_mono (step i _ nx v m h tk o (List.getElem?_eq_getElem hlt) hJ ho hv (overlay_of hm ▸ F) N) (fun _ s₂ q => wpAny_mono q (fun f s₃ q' => ?_) fun _ _ e => e) fun _ _ e => e
    have fin : UnrEndW h₀ env.locals { s with heap := h, toks := tk } [(I, o)] (fun m' n' => J (i + 1) n' ∧ ∀ z, stored.contains z = false → m' z = m₀ z) s₃ →
        UnrEndW h₀ env.locals { s with heap := h, toks := tk } [(I, o)] (fun m' n' => SubL keep n' ∧ ItemsRest prog w A E h₀ env target body Q s [(I, cls)] keep (xs.drop (i + 1)) m' n') s₃ := by
      rintro ⟨h', tk', m', n', e, F', N', off, hJ', hm'⟩
      exact ⟨h', tk', m', n', e, F', N', off, hk _ _ hJ', ih (i + 1) m' n' (by omega) hJ' hm'⟩
    cases f with
    | ret v => exact q'
    | brk => exact q'
    | next => exact fin q'
    | cont => exact fin q'
end
theorem rows_of {news : List (Addr × Obj)} : ∀ {us : List Value} {Rw : List (Int × Str)}, RowsIn news us Rw → us.length = Rw.length ∧ ∀ i, i < us.length → ∃ u v k t1 t2, us[i]? = some (.ref u) ∧ Rw[i]? = some (v, k) ∧ (u, tupO [.int v t1, .str k t2]) ∈ news
  | _, _, .nil => ⟨rfl, fun i h => absurd h (Nat.not_lt_zero _)⟩
  | _, _, .cons (u := u) (v := v) (k := k) ⟨t1, t2, hm⟩ r => by
    have ih := rows_of r
    refine ⟨congrArg (· + 1) ih.1, fun i h => ?_⟩
    cases i with
    | zero => exact ⟨u, v, k, t1, t2, rfl, rfl, hm⟩
    | succ i => exact ih.2 i (Nat.lt_of_succ_lt_succ h)
theorem row_item {news : List (Addr × Obj)} {us : List Value} {R : List (Int × Str)} {i : Nat} {xx : Itm} {v : Value} {h : Heap} (W : RowsIn news us R) (hx : (us.map Itm.val)[i]? = some xx) (hv : xx.Is v h) :
    ∃ u n k t1 t2, v = .ref u ∧ R[i]? = some (n, k) ∧ (u, tupO [.int n t1, .str k t2]) ∈ news := by
  rw [List.getElem?_map] at hx
  cases e : us[i]? with
  | none => rw [e] at hx; cases hx
  | some v' =>
    rw [e] at hx
    cases hx
    obtain ⟨u, n, k, t1, t2, a, b, c⟩ := (rows_of W).2 i (List.getElem?_eq_some_iff.mp e).1
    rw [e] at a
    cases a
    exact ⟨u, n, k, t1, t2, hv, b, c⟩
section
variable {w : World} {mean : ExcName → Option Value} {mg mb : Str → Option Value} {dp un : Nat} {gd : Option (List Code)} {cn : Str} {cs : Scope} {a : Addr} {ccd : Value} {cl : List (Str × Addr)} {outer : List Env} {A₀ : Around} {base h₀ : Heap} {L : Addr} {m : Str → Option Value} {s : Shared} {news : List (Addr × Obj)} {Q E : Value → Shared → Prop}
  {P kd pd od md : Addr} {DK : List (Int × Str)} {DP DH DM : List (Int × Int)}









theorem unrEnd {h₀ : Heap} {L : Addr} {s₁ : Shared} {its news : List (Addr × Obj)} {rest : (Str → Option Value) → List (Addr × Obj) → Prop} {h' : Heap} {tk : Nat} {m' : Str → Option Value} (F : Fr h₀ L h' m') (N : News h₀ L h' (its ++ news)) (off : ∀ p ∈ news, ∀ q ∈ its, p.1 ≠ q.1) (r : rest m' news) :
    UnrEndW h₀ L s₁ its rest { s₁ with heap := h', toks := tk } := ⟨h', tk, m', news, rfl, F, N, off, r⟩
theorem off_one {I : Addr} {o : Obj} {news : List (Addr × Obj)} (l : ∀ p ∈ news, p.1 < I) : ∀ p ∈ news, ∀ q ∈ [(I, o)], p.1 ≠ q.1 := fun p hp q hq => by rw [List.mem_singleton.mp hq]; exact Nat.ne_of_lt (l p hp)
theorem subL_of {a : Addr} {o : Obj} {news : List (Addr × Obj)} (h : (a, o) ∈ news) : SubL [(a, o)] news := And.intro h trivial
theorem rowsP17_2 : True := by
  k_with "exec For Tuple Name cons nil" => (k_here; (rename Fr _ _ _ _ => lF'); (with_unfolding_all refine' For_turns lF' ?_; k_whole))
  k_with "pyIter ref" => (k_here; k_dflt (refine iter_listTurns (by rfl) (by k_asm) (by k_asm) (by k_mem) rfl rfl ?_); intro I' l1)
  k_with "ItemsRest" => (with_unfolding_all first
    | (refine ItemsRest.val ?_; intro h' tk' F'; refine AllObj.cons (fun o' hc' => ?_); refine AllObj.nil (fun N' => ?_); (try simp only [List.cons_append, List.nil_append] at N'))
    | (refine ItemsRest.zero ?_; intro h' tk' F' N'))
  k_with "UnrEndW" => (k_here; refine unrEnd (by k_asm) (by k_asm) (off_one (by assumption)) ⟨subL_of (by k_mem), ?_⟩)
  k_with "mine stored" => (intro z9 hz9; (have n1 : ¬ z9 = Str.ofString "one" := by intro q9; rw [q9] at hz9; exact absurd hz9 (by decide)); (have n2 : ¬ z9 = Str.ofString "kind" := by intro q9; rw [q9] at hz9; exact absurd hz9 (by decide)); simp only [if_neg n1, if_neg n2, hz9, Bool.false_eq_true, if_false])
  trivial
def rowF : List (Int × Str) → Int → Option Str
  | [], _ => none
  | (o, k) :: r, v => if o = v then some k else rowF r v
def kindF (R1 R2 : List (Int × Str)) (v : Int) : Str := if v = 100 then "primary" else match rowF R1 v with
  | some k => k
  | none => if v = 200 then "primary" else match rowF R2 v with
    | some k => k
    | none => "plain"
theorem isS_of {x y : Str} {t : Tok} (e : x = y) : IsS y (.str x t) := ⟨t, by rw [e]⟩
abbrev JKind (Lg : List (Addr × Obj)) (R : List (Int × Str)) (v : Int) (i : Nat) (nx : List (Addr × Obj)) : Prop := nx = Lg ∧ rowF (R.take i) v = none
theorem row_snoc {R : List (Int × Str)} {v n : Int} {k : Str} : ∀ {L : List (Int × Str)}, rowF L v = none → n ≠ v → rowF (L ++ [(n, k)]) v = none
  | [], _, h => by show (if n = v then _ else _) = _; rw [if_neg h]; rfl
  | (o, k') :: r, e, h => by
    have e' : (if o = v then some k' else rowF r v) = none := e
    show (if o = v then some k' else rowF (r ++ [(n, k)]) v) = none
    by_cases q : o = v
    · rw [if_pos q] at e'; cases e'
    · rw [if_neg q] at e' ⊢; exact row_snoc (R := R) e' h
theorem row_next {R : List (Int × Str)} {i : Nat} {v n : Int} {k : Str} (hR : R[i]? = some (n, k)) (e : rowF (R.take i) v = none) (h : n ≠ v) : rowF (R.take (i + 1)) v = none := by
  rw [List.take_add_one, hR]; exact row_snoc (R := R) e h
theorem row_hit : ∀ {R : List (Int × Str)} {i : Nat} {v n : Int} {k : Str}, R[i]? = some (n, k) → rowF (R.take i) v = none → n = v → rowF R v = some k
  | (o, k') :: r, 0, v, n, k, h, _, q => by cases h; show (if o = v then _ else _) = _; rw [if_pos q]
  | (o, k') :: r, i + 1, v, n, k, h, e, q => by
    have e' : (if o = v then some k' else rowF (r.take i) v) = none := e
    show (if o = v then some k' else rowF r v) = some k
    by_cases z : o = v
    · rw [if_pos z] at e'; cases e'
    · rw [if_neg z] at e' ⊢; exact row_hit h e' q
theorem kind_1 {R1 R2 : List (Int × Str)} {v : Int} (h : v = 100) : ("primary" : Str) = kindF R1 R2 v := by unfold kindF; rw [if_pos h]
theorem kind_2 {R1 R2 : List (Int × Str)} {v : Int} {k : Str} (h : v ≠ 100) (e : rowF R1 v = some k) : k = kindF R1 R2 v := by unfold kindF; rw [if_neg h, e]
theorem kind_3 {R1 R2 : List (Int × Str)} {v : Int} (h : v ≠ 100) (e : rowF R1 v = none) (q : v = 200) : ("primary" : Str) = kindF R1 R2 v := by unfold kindF; rw [if_neg h, e]; dsimp only; rw [if_pos q]
theorem kind_4 {R1 R2 : List (Int × Str)} {v : Int} {k : Str} (h : v ≠ 100) (e : rowF R1 v = none) (q : v ≠ 200) (e2 : rowF R2 v = some k) : k = kindF R1 R2 v := by unfold kindF; rw [if_neg h, e]; dsimp only; rw [if_neg q, e2]
theorem kind_5 {R1 R2 : List (Int × Str)} {v : Int} (h : v ≠ 100) (e : rowF R1 v = none) (q : v ≠ 200) (e2 : rowF R2 v = none) : ("plain" : Str) = kindF R1 R2 v := by unfold kindF; rw [if_neg h, e]; dsimp only; rw [if_neg q, e2]
theorem c_kind {f : Addr} {R1 R2 : List (Int × Str)} (cx : Cx w mean mg mb outer A₀ base h₀ L m cs s.heap news) (hd : dp + 2 ≤ 500) (hu : un + 20 ≤ 5000) (fm : FamAt news f R1 R2) (h1 : R1 ∈ R1s) (h2 : R2 ∈ R2s) (v : Int) (t : Tok)
    (ret : Ret h₀ L m s Q news (IsS (kindF R1 R2 v))) :
    wpAny (model PR w) (ktrTop dp un gd cn cs L a ccd cl outer) (call (.ref 213) [.ref f, .int v t]) Q E s := by
  obtain ⟨B, F, X, N, T, hk⟩ := cx
  obtain ⟨nf, a1, a2, r1, r2, t1, t2, m1, m2, m3, ⟨us1, k1, mr1, w1⟩, us2, k2, mr2, w2⟩ := fm
  have rl1 := (rows_of w1).1
  have rl2 := (rows_of w2).1
  refine wpAny_call ?_
  k_dflt ktr_enter
  k_steps
  · exact ret _ _ _ (by k_asm) (newsSub (by k_asm) (by walk_at "mine sub")) (isS_of (kind_1 (by assumption)))
  refine items_inv ["one", "kind"] _ (JKind _ R1 v) ?hk (us1.map Itm.val) ?step ?done us1.length 0 _ _ (by rw [List.length_map]; omega) ⟨rfl, rfl⟩ (fun _ _ => rfl)
  case hk =>
    rintro i nx ⟨rfl, -⟩
    exact subL_of (by k_mem)
  case step =>
    intro i xx nx v9 u9 h9 tk9 o9 hx hJ ho hv F9 N9
    obtain ⟨rfl, hn⟩ := hJ
    obtain ⟨u8, n8, k8, s1, s2, rfl, hR, hu8⟩ := row_item w1 hx hv
    k_steps
    · exact ret _ _ _ (by k_asm) (newsSub (by k_asm) (by walk_at "mine sub")) (isS_of (kind_2 (by assumption) (row_hit hR hn (by assumption))))
    · exact unrEnd (by k_asm) (by k_asm) (off_one (by assumption)) ⟨⟨rfl, row_next hR hn (by assumption)⟩, by walk_at "mine stored"⟩
  case done =>
    intro nx u9 h9 tk9 hJ F9 N9
    obtain ⟨rfl, hn⟩ := hJ
    rw [List.length_map, rl1, List.take_length] at hn
    k_steps
    · exact ret _ _ _ (by k_asm) (newsSub (by k_asm) (by walk_at "mine sub")) (isS_of (kind_3 (by assumption) hn (by assumption)))
    refine items_inv ["one", "kind"] _ (JKind _ R2 v) ?hk2 (us2.map Itm.val) ?step2 ?done2 us2.length 0 _ _ (by rw [List.length_map]; omega) ⟨rfl, rfl⟩ (fun _ _ => rfl)
    case hk2 =>
      rintro i nx ⟨rfl, -⟩
      exact subL_of (by k_mem)
    case step2 =>
      intro i xx nx v9 u9 h9 tk9 o9 hx hJ ho hv F9 N9
      obtain ⟨rfl, hn2⟩ := hJ
      obtain ⟨u8, n8, k8, s1, s2, rfl, hR, hu8⟩ := row_item w2 hx hv
      k_steps
      · exact ret _ _ _ (by k_asm) (newsSub (by k_asm) (by walk_at "mine sub")) (isS_of (kind_4 (by assumption) hn (by assumption) (row_hit hR hn2 (by assumption))))
      · exact unrEnd (by k_asm) (by k_asm) (off_one (by assumption)) ⟨⟨rfl, row_next hR hn2 (by assumption)⟩, by walk_at "mine stored"⟩
    case done2 =>
      intro nx u9 h9 tk9 hJ F9 N9
      obtain ⟨rfl, hn2⟩ := hJ
      rw [List.length_map, rl2, List.take_length] at hn2
      k_steps
      all_goals exact ret _ _ _ (by k_asm) (newsSub (by k_asm) (by walk_at "mine sub")) (isS_of (kind_5 (by assumption) hn (by assumption) hn2))
end
end Mine
namespace Mine
theorem rowsP18_0 : True := by
  k_with_none
  k_with "mine down" => (first | exact fun _ h => h | (refine dn ?_; walk_at "mine down"))
  k_with "k_ne" => (first | with_reducible assumption | exact Ne.symm (by with_reducible assumption) | exact ltm_ne (by with_reducible assumption) (by k_mem) | exact ltm_en (by with_reducible assumption) (by k_mem) | exact Nat.ne_of_lt (by with_reducible assumption) | exact Nat.ne_of_gt (by with_reducible assumption) | exact ltm_c1 (by with_reducible assumption) (by k_mem) | exact ltm_d1 (by with_reducible assumption) (by k_mem) | exact ltm_c2 (by with_reducible assumption) (by k_mem) | exact ltm_d2 (by with_reducible assumption) (by k_mem) | exact ltm_c3 (by with_reducible assumption) (by k_mem) | exact ltm_d3 (by with_reducible assumption) (by k_mem) | exact ltm_c4 (by with_reducible assumption) (by k_mem) | exact ltm_d4 (by with_reducible assumption) (by k_mem) | exact ltm_c5 (by with_reducible assumption) (by k_mem) | exact ltm_d5 (by with_reducible assumption) (by k_mem) | (refine neN ?_; (try dsimp only); omega))
  k_with "k_all" => (first | exact ltm_all (by with_reducible assumption) (by walk_at "mine down") | exact ltm_a1 (by with_reducible assumption) (by walk_at "mine down") | exact ltm_a2 (by with_reducible assumption) (by walk_at "mine down") | exact ltm_a3 (by with_reducible assumption) (by walk_at "mine down") | exact ltm_a4 (by with_reducible assumption) (by walk_at "mine down") | exact ltm_a5 (by with_reducible assumption) (by walk_at "mine down"))
  trivial
open PyProof.Rows.LCg
section
variable {prog : Program} {w : World} {A : Around} {E : Value → Shared → Prop} {s : Shared} {R : Result → Shared → Prop} {h₀ : Heap} {L : Addr} {m : Str → Option Value} {env : Env}
/-- the tests of a clause -/
abbrev testsOf (ifs : List Expr) (env : Env) : Sem Bool := forIn ifs true fun c r => if r = true then do let ok ← isTrue c env (eval c env); pure (ForInStep.yield ok) else pure (ForInStep.yield r)
theorem compTurn_two (elt target iter target2 iter2 : Expr) (ifs : List Expr) (scope : Scope) (pos : Pos) (it acc : Value) (env : Env) :
    compTurn (.ListComp elt [⟨target, iter, ifs, 0⟩, ⟨target2, iter2, [], 0⟩] scope pos) 0 it acc env = (do
      standAt iter.pos
      match ← pyNext it with
      | none => pure (.done .next)
      | some v =>
        letOwnedTupleGo target it v
        assign target env v
        let mut ok := true
        for c in ifs do
          if ok then ok ← isTrue c env (eval c env)
        if ok then
          let x ← eval iter2 env
          standAt iter2.pos
          let x ← foldedSetIterable iter2 env x
          let _ ← runOwn (.compStart (.ListComp elt [⟨target, iter, ifs, 0⟩, ⟨target2, iter2, [], 0⟩] scope pos) 1 (← holding [x] (pyIter x)) acc env) env
        again (.compLoop (.ListComp elt [⟨target, iter, ifs, 0⟩, ⟨target2, iter2, [], 0⟩] scope pos) 0 it acc env)) := by rfl
theorem compTurn_inner (elt target iter target2 iter2 : Expr) (ifs : List Expr) (scope : Scope) (pos : Pos) (it acc : Value) (env : Env) :
    compTurn (.ListComp elt [⟨target, iter, ifs, 0⟩, ⟨target2, iter2, [], 0⟩] scope pos) 1 it acc env = (do
      standAt iter2.pos
      match ← pyNext it with
      | none => pure (.done .next)
      | some v =>
        letOwnedTupleGo target2 it v
        assign target2 env v
        let mut ok := true
        for c in ([] : List Expr) do
          if ok then ok ← isTrue c env (eval c env)
        if ok then
          (do let _ ← call (.builtin "list.append") [acc, ← eval elt env])
        again (.compLoop (.ListComp elt [⟨target, iter, ifs, 0⟩, ⟨target2, iter2, [], 0⟩] scope pos) 1 it acc env)) := by rfl

theorem turn_one {elt target iter : Expr} {ifs : List Expr} {scope : Scope} {pos : Pos} {it acc : Value}
    (h : ∀ E', wpAny (model prog w) A (pyNext it) (fun r s₁ => match r with
      | none => R (.ok .next) s₁
      | some v => wpAny (model prog w) A (letOwnedTupleGo target it v) (fun _ s₂ => wpAny (model prog w) A (assign target env v) (fun _ s₃ =>
          wpAny (model prog w) A (testsOf ifs env) (fun ok s₄ =>
            if ok = true then wpAny (model prog w) A (eval elt env) (fun x s₅ =>
              wpAny (model prog w) A (call (.builtin "list.append") [acc, x]) (fun _ s₆ => codeAny (model prog w) A (.compLoop (.ListComp elt [⟨target, iter, ifs, 0⟩] scope pos) 0 it acc env) R s₆) E' s₅) E' s₄
            else codeAny (model prog w) A (.compLoop (.ListComp elt [⟨target, iter, ifs, 0⟩] scope pos) 0 it acc env) R s₄) E' s₃) E' s₂) E' s₁) E' s) :
    codeAny (model prog w) A (.compLoop (.ListComp elt [⟨target, iter, ifs, 0⟩] scope pos) 0 it acc env) R s := by
  refine codeAny_of_tree ?_
  show wpAny _ A ((compTurn (.ListComp elt [⟨target, iter, ifs, 0⟩] scope pos) 0 it acc env).onRaise (fun x => do noteFrame x env; theTreesLotGoes x)) _ _ s
  refine wpAny_noted ?_
  rw [compTurn_list]
  refine wpAny_bind (wpAny_standAt (wpAny_bind (wpAny_mono (h _) (fun r s₁ h₁ => ?_) fun _ _ h' => h')))
  cases r with
  | none => exact wpAny_pure h₁
  | some v =>
    refine wpAny_bind (wpAny_mono h₁ (fun _ s₂ h₂ => wpAny_bind (wpAny_mono h₂ (fun _ s₃ h₃ => wpAny_bind (wpAny_mono h₃ (fun ok s₄ h₄ => ?_) fun _ _ h' => h')) fun _ _ h' => h')) fun _ _ h' => h')
    cases ok with
    | false => exact wpAny_pure ⟨rfl, h₄⟩
    | true => exact wpAny_bind (wpAny_bind (wpAny_mono h₄ (fun x s₅ h₅ => wpAny_bind (wpAny_mono h₅ (fun _ s₆ h₆ => wpAny_pure (wpAny_pure ⟨rfl, h₆⟩)) fun _ _ h' => h')) fun _ _ h' => h'))

theorem turn_two {elt target iter target2 iter2 : Expr} {ifs : List Expr} {scope : Scope} {pos : Pos} {it acc : Value}
    (h : ∀ E', wpAny (model prog w) A (pyNext it) (fun r s₁ => match r with
      | none => R (.ok .next) s₁
      | some v => wpAny (model prog w) A (letOwnedTupleGo target it v) (fun _ s₂ => wpAny (model prog w) A (assign target env v) (fun _ s₃ =>
          wpAny (model prog w) A (testsOf ifs env) (fun ok s₄ =>
            if ok = true then wpAny (model prog w) A (eval iter2 env) (fun x s₅ =>
              wpAny (model prog w) A (pyIter x) (fun it2 s₆ => codeAny (model prog w) A (.compStart (.ListComp elt [⟨target, iter, ifs, 0⟩, ⟨target2, iter2, [], 0⟩] scope pos) 1 it2 acc env)
                (fun r s' => ∃ f, r = .ok f ∧ codeAny (model prog w) A (.compLoop (.ListComp elt [⟨target, iter, ifs, 0⟩, ⟨target2, iter2, [], 0⟩] scope pos) 0 it acc env) R s') s₆) E' s₅) E' s₄
            else codeAny (model prog w) A (.compLoop (.ListComp elt [⟨target, iter, ifs, 0⟩, ⟨target2, iter2, [], 0⟩] scope pos) 0 it acc env) R s₄) E' s₃) E' s₂) E' s₁) E' s)
    (hs : ∀ x, foldedSetIterable iter2 env x = pure x) :
    codeAny (model prog w) A (.compLoop (.ListComp elt [⟨target, iter, ifs, 0⟩, ⟨target2, iter2, [], 0⟩] scope pos) 0 it acc env) R s := by
  refine codeAny_of_tree ?_
  show wpAny _ A ((compTurn (.ListComp elt [⟨target, iter, ifs, 0⟩, ⟨target2, iter2, [], 0⟩] scope pos) 0 it acc env).onRaise (fun x => do noteFrame x env; theTreesLotGoes x)) _ _ s
  refine wpAny_noted ?_
  rw [compTurn_two]
  refine wpAny_bind (wpAny_standAt (wpAny_bind (wpAny_mono (h _) (fun r s₁ h₁ => ?_) fun _ _ h' => h')))
  cases r with
  | none => exact wpAny_pure h₁
  | some v =>
    refine wpAny_bind (wpAny_mono h₁ (fun _ s₂ h₂ => wpAny_bind (wpAny_mono h₂ (fun _ s₃ h₃ => wpAny_bind (wpAny_mono h₃ (fun ok s₄ h₄ => ?_) fun _ _ h' => h')) fun _ _ h' => h')) fun _ _ h' => h')
    cases ok with
    | false => exact wpAny_pure ⟨rfl, h₄⟩
    | true =>
      refine wpAny_bind (wpAny_mono h₄ (fun x s₅ h₅ => wpAny_bind (wpAny_standAt (wpAny_bind (wpAny_of_eq (hs x) (wpAny_bind (wpAny_holding (wpAny_mono h₅ (fun it2 s₆ h₆ => ?_) fun _ _ h' => h'))))))) fun _ _ h' => h')
      refine wpAny_bind (wpAny_runOwn (h := none) ?_)
      rw [Around.mark_none]
      refine codeAny_mono h₆ fun r s' hr => ?_
      obtain ⟨f, rfl, hc⟩ := hr
      exact wpAny_pure ⟨rfl, hc⟩

theorem turn_inner {elt target iter target2 iter2 : Expr} {ifs : List Expr} {scope : Scope} {pos : Pos} {it acc : Value}
    (h : ∀ E', wpAny (model prog w) A (pyNext it) (fun r s₁ => match r with
      | none => R (.ok .next) s₁
      | some v => wpAny (model prog w) A (letOwnedTupleGo target2 it v) (fun _ s₂ => wpAny (model prog w) A (assign target2 env v) (fun _ s₃ =>
          wpAny (model prog w) A (eval elt env) (fun x s₅ =>
              wpAny (model prog w) A (call (.builtin "list.append") [acc, x]) (fun _ s₆ => codeAny (model prog w) A (.compLoop (.ListComp elt [⟨target, iter, ifs, 0⟩, ⟨target2, iter2, [], 0⟩] scope pos) 1 it acc env) R s₆) E' s₅) E' s₃) E' s₂) E' s₁) E' s) :
    codeAny (model prog w) A (.compLoop (.ListComp elt [⟨target, iter, ifs, 0⟩, ⟨target2, iter2, [], 0⟩] scope pos) 1 it acc env) R s := by
  refine codeAny_of_tree ?_
  show wpAny _ A ((compTurn (.ListComp elt [⟨target, iter, ifs, 0⟩, ⟨target2, iter2, [], 0⟩] scope pos) 1 it acc env).onRaise (fun x => do noteFrame x env; theTreesLotGoes x)) _ _ s
  refine wpAny_noted ?_
  rw [compTurn_inner]
  refine wpAny_bind (wpAny_standAt (wpAny_bind (wpAny_mono (h _) (fun r s₁ h₁ => ?_) fun _ _ h' => h')))
  cases r with
  | none => exact wpAny_pure h₁
  | some v =>
    refine wpAny_bind (wpAny_mono h₁ (fun _ s₂ h₂ => wpAny_bind (wpAny_mono h₂ (fun _ s₃ h₃ => wpAny_bind (wpAny_mono (wpAny_tests_nil (Q := fun ok s₄ => ok = true ∧ s₄ = s₃) ⟨rfl, rfl⟩) (fun ok s₄ h₄ => ?_) fun _ _ h' => h')) fun _ _ h' => h')) fun _ _ h' => h')
    obtain ⟨rfl, rfl⟩ := h₄
    exact wpAny_bind (wpAny_bind (wpAny_mono h₃ (fun x s₅ h₅ => wpAny_bind (wpAny_mono h₅ (fun _ s₆ h₆ => wpAny_pure (wpAny_pure ⟨rfl, h₆⟩)) fun _ _ h' => h')) fun _ _ h' => h'))

theorem start_inner {elt target iter target2 iter2 : Expr} {ifs : List Expr} {scope : Scope} {pos : Pos} {I ax : Addr} {j : Nat} {acc : Value} (hit : s.heap.IsListIter I ax j)
    (h : codeAny (model prog w) A (.compLoop (.ListComp elt [⟨target, iter, ifs, 0⟩, ⟨target2, iter2, [], 0⟩] scope pos) 1 (.ref I) acc env) R s) :
    codeAny (model prog w) A (.compStart (.ListComp elt [⟨target, iter, ifs, 0⟩, ⟨target2, iter2, [], 0⟩] scope pos) 1 (.ref I) acc env) R s := by
  refine codeAny_of_tree ?_
  show wpAny _ _ ((compStart (.ListComp elt [⟨target, iter, ifs, 0⟩, ⟨target2, iter2, [], 0⟩] scope pos) 1 (.ref I) acc env).onRaise (fun x => do noteFrame x env; standAt theWindowsPlace)) _ _ s
  refine wpAny_notedAt ?_
  unfold compStart
  show wpAny _ _ (ask >>= _) _ _ s
  refine wpAny_bind (wpAny_askSetting (wpAny_ite ?_))
  split
  · first
      | exact wpAny_bind (wpAny_pure (wpAny_pure (And.intro rfl h)))
      | exact wpAny_pure (And.intro rfl h)
  · refine wpAny_bind (wpAny_rule ?_)
    show wpAny _ _ (standAt iter2.pos >>= _) _ _ s
    exact wpAny_bind (wpAny_standAt (wpAny_bind (wpAny_pyIter_listiter hit (wpAny_pure (And.intro rfl h)))))

/-- the state of a comprehension: iterator I over the list ax (next: j), its names at C, its list D -/
structure CW (h₀ : Heap) (L : Addr) (m : Str → Option Value) (I ax : Addr) (j : Nat) (C : Addr) (mc : Str → Option Value) (D : Addr) (ys : List Value) (news : List (Addr × Obj)) (h : Heap) : Prop where
  F : Fr h₀ L h m
  N : News h₀ L h news
  hI : h.IsListIter I ax j
  hC : h.Ns C mc
  hD : h.get? D = some (lst ys)
  oI : I ≠ L ∧ h₀.get? I = none
  oC : C ≠ L ∧ h₀.get? C = none
  oD : D ≠ L ∧ h₀.get? D = none
  off : ∀ p ∈ news, p.1 ≠ I ∧ p.1 ≠ C ∧ p.1 ≠ D
  IC : I ≠ C
  ID : I ≠ D
  CD : C ≠ D
variable {I ax C D : Addr} {j : Nat} {mc : Str → Option Value} {ys : List Value} {news : List (Addr × Obj)}
theorem CW.keeps {h h' : Heap} (c : CW h₀ L m I ax j C mc D ys news h) (k : ∀ b o, h.get? b = some o → h'.get? b = some o) : CW h₀ L m I ax j C mc D ys news h' :=
  { c with F := c.F.keeps k, N := c.N.grown k, hI := let ⟨o, e, r⟩ := c.hI; ⟨o, k _ _ e, r⟩, hC := c.hC.at' fun o e => k _ _ e, hD := k _ _ c.hD }
theorem CW.src {h : Heap} {its : Array Value} (c : CW h₀ L m I ax j C mc D ys news h) (S : SrcAt h₀ ax its news) : h.IsList ax its := S.list c.F.keep c.N
theorem SrcAt.src_ne {h : Heap} {its : Array Value} (c : CW h₀ L m I ax j C mc D ys news h) (S : SrcAt h₀ ax its news) : ax ≠ I := by
  rcases S with ⟨o, e, _⟩ | ⟨o, hm, _⟩
  · rintro rfl; rw [c.oI.2] at e; cases e
  · exact (c.off _ hm).1
/-- the iterator alone has changed -/
theorem CW.iter {h h' : Heap} {j' : Nat} (c : CW h₀ L m I ax j C mc D ys news h) (hs : Heap.SameBut I h h') (hI : h'.IsListIter I ax j') : CW h₀ L m I ax j' C mc D ys news h' :=
  { c with F := c.F.change hs c.oI.1 c.oI.2, N := fun p hp => ⟨hs.extBut _ _ (c.off p hp).1 (c.N p hp).1, (c.N p hp).2⟩, hI := hI, hC := c.hC.sameBut hs (Ne.symm c.IC), hD := hs.extBut _ _ (Ne.symm c.ID) c.hD }
theorem CW.names {h h' : Heap} {mc' : Str → Option Value} (c : CW h₀ L m I ax j C mc D ys news h) (hs : Heap.SameBut C h h') (hC : h'.Ns C mc') : CW h₀ L m I ax j C mc' D ys news h' :=
  { c with F := c.F.change hs c.oC.1 c.oC.2, N := fun p hp => ⟨hs.extBut _ _ (c.off p hp).2.1 (c.N p hp).1, (c.N p hp).2⟩, hI := let ⟨o, e, r⟩ := c.hI; ⟨o, hs.extBut _ _ c.IC e, r⟩, hC := hC, hD := hs.extBut _ _ (Ne.symm c.CD) c.hD }
theorem CW.push {h h' : Heap} {ys' : List Value} (c : CW h₀ L m I ax j C mc D ys news h) (hs : Heap.SameBut D h h') (hD : h'.get? D = some (lst ys')) : CW h₀ L m I ax j C mc D ys' news h' :=
  { c with F := c.F.change hs c.oD.1 c.oD.2, N := fun p hp => ⟨hs.extBut _ _ (c.off p hp).2.2 (c.N p hp).1, (c.N p hp).2⟩, hI := let ⟨o, e, r⟩ := c.hI; ⟨o, hs.extBut _ _ c.ID e, r⟩, hC := c.hC.sameBut hs c.CD, hD := hD }
theorem CW.sub {h : Heap} {news' : List (Addr × Obj)} (c : CW h₀ L m I ax j C mc D ys news h) (k : ∀ p ∈ news', p ∈ news) : CW h₀ L m I ax j C mc D ys news' h :=
  { c with N := fun p hp => c.N p (k p hp), off := fun p hp => c.off p (k p hp) }
/-- what a walk in the comprehension sees -/
theorem CW.led {h : Heap} (c : CW h₀ L m I ax j C mc D ys news h) : ∃ oI oC, oI.cls = .type "list_iterator" ∧ oI.data = .fields #[.ref ax, .int j 0] ∧ NsObj oC mc ∧ News h₀ L h ((I, oI) :: (C, oC) :: (D, lst ys) :: news) := by
  obtain ⟨oI, eI, hc, hd⟩ := c.hI
  obtain ⟨oC, eC, hC⟩ := ns_obj c.hC
  refine ⟨oI, oC, hc, hd, hC, fun p hp => ?_⟩
  rcases List.mem_cons.mp hp with rfl | hp
  · exact ⟨eI, c.oI⟩
  · rcases List.mem_cons.mp hp with rfl | hp
    · exact ⟨eC, c.oC⟩
    · rcases List.mem_cons.mp hp with rfl | hp
      · exact ⟨c.hD, c.oD⟩
      · exact c.N p hp
theorem CW.off3 {h : Heap} (c : CW h₀ L m I ax j C mc D ys news h) : Off3 I C D news := Off3.of c.off
theorem CW.of {h h' : Heap} {oI oC : Obj} {news' : List (Addr × Obj)} (c : CW h₀ L m I ax j C mc D ys news h) (hc : oI.cls = .type "list_iterator") (hd : oI.data = .fields #[.ref ax, .int j 0]) (hC : NsObj oC mc)
    (F : Fr h₀ L h' m) (N : News h₀ L h' ((I, oI) :: (C, oC) :: (D, lst ys) :: news')) (off : Off3 I C D news') : CW h₀ L m I ax j C mc D ys news' h' :=
  { c with F := F, N := fun p hp => N p (.tail _ (.tail _ (.tail _ hp))), hI := ⟨oI, (N _ (.head _)).1, hc, hd⟩, hC := hC.ns (N _ (.tail _ (.head _))).1, hD := (N _ (.tail _ (.tail _ (.head _)))).1, off := off.mem }

theorem cw_next {its : Array Value} {v : Value} {Q : Option Value → Shared → Prop} (c : CW h₀ L m I ax j C mc D ys news s.heap) (S : SrcAt h₀ ax its news) (hj : its[j]? = some v)
    (h : ∀ h', CW h₀ L m I ax (j + 1) C mc D ys news h' → Q (some v) { s with heap := h' }) : wpAny (model prog w) A (pyNext (.ref I)) Q E s :=
  wpAny_pyNext_list_item c.hI (c.src S) hj fun h' hi hs => h h' (c.iter hs hi)
theorem cw_end {its : Array Value} {Q : Option Value → Shared → Prop} (hh : A.handled = none) (c : CW h₀ L m I ax j C mc D ys news s.heap) (S : SrcAt h₀ ax its news) (hj : its[j]? = none)
    (h : ∀ h', Fr h₀ L h' m → News h₀ L h' news → h'.Ns C mc → h'.get? D = some (lst ys) → Q none { s with heap := h' }) : wpAny (model prog w) A (pyNext (.ref I)) Q E s :=
  wpAny_pyNext_list_end hh c.hI (c.src S) hj fun h' hs => h h' (fr_but c.F (fun b o hb e => hs b o (by simpa using hb) e) (Ne.symm c.oI.1) c.oI.2)
    (fun p hp => ⟨hs _ _ (c.off p hp).1 (c.N p hp).1, (c.N p hp).2⟩) (c.hC.extBut hs (Ne.symm c.IC)) (hs _ _ (Ne.symm c.ID) c.hD)
theorem cw_name {x : Str} {px : Pos} {v : Value} {Q : Unit → Shared → Prop} (c : CW h₀ L m I ax j C mc D ys news s.heap) (hC : env.locals = C) (hx : env.kindOf x = some .local) (hk : env.scope.kind = .function)
    (h : ∀ h' tk, CW h₀ L m I ax j C (fun z => if z = x then some v else mc z) D ys news h' → Q () { s with heap := h', toks := tk }) : wpAny (model prog w) A (assign (.Name x px) env v) Q E s := by
  subst hC
  exact wpAny_assign_Name (wpAny_storeName_local hx c.hC (fun h' hn hs => h h' _ (c.names hs hn)) (by simp [hk]))
theorem cw_let {elts : List Expr} {x1} {pos : Pos} {t : Addr} {Q : Unit → Shared → Prop} (c : CW h₀ L m I ax j C mc D ys news s.heap) (h : Q () s) : wpAny (model prog w) A (letOwnedTupleGo (.Tuple elts x1 pos) (.ref I) (.ref t)) Q E s :=
  wpAny_letOwnedTupleGo_listiter c.hI h
theorem cw_pair {x x₂ : Str} {px px₂ tp : Pos} {tk0} {t : Addr} {v₁ v₂ : Value} {Q : Unit → Shared → Prop} (hh : A.handled = none) (c : CW h₀ L m I ax j C mc D ys news s.heap) (ht : (t, tupO [v₁, v₂]) ∈ news)
    (hC : env.locals = C) (hx : env.kindOf x = some .local) (hx₂ : env.kindOf x₂ = some .local) (hk : env.scope.kind = .function)
    (h : ∀ h' tk, CW h₀ L m I ax j C (fun z => if z = x₂ then some v₂ else if z = x then some v₁ else mc z) D ys news h' → Q () { s with heap := h', toks := tk }) :
    wpAny (model prog w) A (assign (.Tuple [.Name x px, .Name x₂ px₂] tk0 tp) env (.ref t)) Q E s := by
  refine assign_Tuple_tuple hh (items := #[v₁, v₂]) ⟨_, (c.N _ ht).1, rfl, _, rfl⟩ rfl rfl fun h₅ he => ?_
  have c' := c.keeps (h' := h₅) fun b o e => he b o (Nat.ne_of_lt (Heap.lt_size e)) e
  refine assignInOrder_cons (cw_name (s := { s with heap := h₅ }) c' hC hx hk fun h₆ tk₆ c₆ => ?_)
  refine assignInOrder_cons (cw_name (s := { s with heap := h₆, toks := tk₆ }) c₆ hC hx₂ hk fun h₇ tk₇ c₇ => ?_)
  exact assignInOrder_nil (h h₇ tk₇ c₇)
theorem cw_load {y : Str} {py : Pos} {v : Value} {Q : Value → Shared → Prop} (c : CW h₀ L m I ax j C mc D ys news s.heap) (hC : env.locals = C) (hy : env.kindOf y = some .local) (hk : env.scope.kind = .function) (hv : mc y = some v)
    (hd : (y == ("__debug__" : Str)) = false) (h : Q v s) : wpAny (model prog w) A (eval (.Name y py) env) Q E s := by
  subst hC
  exact wpAny_Name (wpAny_loadName_local hk hy c.hC hv h) hd
theorem cw_app {y : Value} {Q : Value → Shared → Prop} (c : CW h₀ L m I ax j C mc D ys news s.heap) (hz : ys.length ≤ 100) (h : ∀ h', CW h₀ L m I ax j C mc D (ys ++ [y]) news h' → Q .none { s with heap := h' }) :
    wpAny (model prog w) A (call (.builtin "list.append") [.ref D, y]) Q E s :=
  append_at (hsz := by show ys.toArray.size ≤ sizeLine; rw [List.size_toArray, sizeLine_eq]; omega) c.hD fun h₅ hs₅ hD₅ => h h₅ (c.push hs₅ (hD₅.trans (congrArg some (lst_snoc ys y))))

/-- the inner loop: pairs, the first's name drawn -/
theorem inner_pair {target iter iter2 : Expr} {ifs : List Expr} {x x₂ : Str} {px px₂ tp pe : Pos} {tk0} {scope : Scope} {pos : Pos} {us : List Value} {Rw : List (Int × Str)}
    (hh : A.handled = none) (hC : env.locals = C) (hx : env.kindOf x = some .local) (hx₂ : env.kindOf x₂ = some .local) (hk : env.scope.kind = .function) (hxx : x ≠ x₂) (hd : (x == ("__debug__" : Str)) = false)
    (S : SrcAt h₀ ax us.toArray news) (rows : ∀ i, i < us.length → ∃ u v k t1 t2, us[i]? = some (.ref u) ∧ Rw[i]? = some (v, k) ∧ (u, tupO [.int v t1, .str k t2]) ∈ news) (hl : us.length = Rw.length) :
    ∀ (n i : Nat) (ys : List Value) (mc : Str → Option Value) (s : Shared), i + n = us.length → ys.length + n ≤ 100 → CW h₀ L m I ax i C mc D ys news s.heap →
    (∀ h' tk mc' zs, IntsAre zs ((Rw.drop i).map Prod.fst) → Fr h₀ L h' m → News h₀ L h' news → h'.Ns C mc' → h'.get? D = some (lst (ys ++ zs)) → R (.ok .next) { s with heap := h', toks := tk }) →
    codeAny (model prog w) A (.compLoop (.ListComp (.Name x pe) [⟨target, iter, ifs, 0⟩, ⟨.Tuple [.Name x px, .Name x₂ px₂] tk0 tp, iter2, [], 0⟩] scope pos) 1 (.ref I) (.ref D) env) R s := by
  intro n
  induction n with
  | zero =>
    intro i ys mc s hi _ c h
    refine turn_inner fun E' => cw_end hh c S (by rw [List.getElem?_toArray]; exact List.getElem?_eq_none (by omega)) fun h' F' N' hC' hD' => ?_
    refine h h' _ mc [] ?_ F' N' hC' (by rw [List.append_nil]; exact hD')
    rw [List.drop_eq_nil_of_le (by omega)]; exact .nil
  | succ n ih =>
    intro i ys mc s hi hy c h
    obtain ⟨u, v, k, t1, t2, hu, hr, hm⟩ := rows i (by omega)
    refine turn_inner fun E' => cw_next c S (by rw [List.getElem?_toArray]; exact hu) fun h₁ c₁ => ?_
    refine cw_let (s := { s with heap := h₁ }) c₁ ?_
    refine cw_pair (s := { s with heap := h₁ }) hh c₁ hm hC hx hx₂ hk fun h₂ tk₂ c₂ => ?_
    refine cw_load (s := { s with heap := h₂, toks := tk₂ }) c₂ hC hx hk (v := .int v t1) (by simp [hxx]) hd ?_
    refine cw_app (s := { s with heap := h₂, toks := tk₂ }) c₂ (by omega) fun h₃ c₃ => ?_
    refine ih (i + 1) _ _ { s with heap := h₃, toks := tk₂ } (by omega) (by rw [List.length_append, List.length_singleton]; omega) c₃ fun h' tk mc' zs hz F' N' hC' hD' => ?_
    refine h h' tk mc' (.int v t1 :: zs) ?_ F' N' hC' (by rw [hD', List.append_assoc]; rfl)
    have e : Rw.drop i = (v, k) :: Rw.drop (i + 1) := by
      obtain ⟨hlt, he⟩ := List.getElem?_eq_some_iff.mp hr
      rw [List.drop_eq_getElem_cons hlt, he]
    rw [e]; exact .cons v t1 hz
/-- the inner loop: numbers, each drawn -/
theorem inner_name {target iter iter2 : Expr} {ifs : List Expr} {x : Str} {px pe : Pos} {scope : Scope} {pos : Pos} {us : List Value} {ns : List Int}
    (hh : A.handled = none) (hC : env.locals = C) (hx : env.kindOf x = some .local) (hk : env.scope.kind = .function) (hd : (x == ("__debug__" : Str)) = false)
    (S : SrcAt h₀ ax us.toArray news) (hu : IntsAre us ns) :
    ∀ (n i : Nat) (ys : List Value) (mc : Str → Option Value) (s : Shared), i + n = us.length → ys.length + n ≤ 100 → CW h₀ L m I ax i C mc D ys news s.heap →
    (∀ h' tk mc' zs, IntsAre zs (ns.drop i) → Fr h₀ L h' m → News h₀ L h' news → h'.Ns C mc' → h'.get? D = some (lst (ys ++ zs)) → R (.ok .next) { s with heap := h', toks := tk }) →
    codeAny (model prog w) A (.compLoop (.ListComp (.Name x pe) [⟨target, iter, ifs, 0⟩, ⟨.Name x px, iter2, [], 0⟩] scope pos) 1 (.ref I) (.ref D) env) R s := by
  have hl := hu.length
  intro n
  induction n with
  | zero =>
    intro i ys mc s hi _ c h
    refine turn_inner fun E' => cw_end hh c S (by rw [List.getElem?_toArray]; exact List.getElem?_eq_none (by omega)) fun h' F' N' hC' hD' => ?_
    refine h h' _ mc [] ?_ F' N' hC' (by rw [List.append_nil]; exact hD')
    rw [List.drop_eq_nil_of_le (by omega)]; exact .nil
  | succ n ih =>
    intro i ys mc s hi hy c h
    have hlt : i < us.length := by omega
    obtain ⟨v, t1, hr, hv⟩ := ints_at hu (i := i) (List.getElem?_eq_getElem hlt)
    refine turn_inner fun E' => cw_next c S (by rw [List.getElem?_toArray, List.getElem?_eq_getElem hlt]) fun h₁ c₁ => ?_
    refine wpAny_pure ?_
    rw [hv]
    refine cw_name (s := { s with heap := h₁ }) c₁ hC hx hk fun h₂ tk₂ c₂ => ?_
    refine cw_load (s := { s with heap := h₂, toks := tk₂ }) c₂ hC hx hk (v := .int v t1) (by simp) hd ?_
    refine cw_app (s := { s with heap := h₂, toks := tk₂ }) c₂ (by omega) fun h₃ c₃ => ?_
    refine ih (i + 1) _ _ { s with heap := h₃, toks := tk₂ } (by omega) (by rw [List.length_append, List.length_singleton]; omega) c₃ fun h' tk mc' zs hz F' N' hC' hD' => ?_
    refine h h' tk mc' (.int v t1 :: zs) ?_ F' N' hC' (by rw [hD', List.append_assoc]; rfl)
    have e : ns.drop i = v :: ns.drop (i + 1) := by
      obtain ⟨hlt, he⟩ := List.getElem?_eq_some_iff.mp hr
      rw [List.drop_eq_getElem_cons hlt, he]
    rw [e]; exact .cons v t1 hz
end
end Mine
namespace Mine
theorem rowsP19_0 : True := by
  k_with_none
  k_with "mine down" => (first | exact fun _ h => h | (refine dn ?_; walk_at "mine down"))
  k_with "k_ne" => (first | with_reducible assumption | exact Ne.symm (by with_reducible assumption) | exact ltm_ne (by with_reducible assumption) (by k_mem) | exact ltm_en (by with_reducible assumption) (by k_mem) | exact Nat.ne_of_lt (by with_reducible assumption) | exact Nat.ne_of_gt (by with_reducible assumption) | exact ltm_c1 (by with_reducible assumption) (by k_mem) | exact ltm_d1 (by with_reducible assumption) (by k_mem) | exact ltm_c2 (by with_reducible assumption) (by k_mem) | exact ltm_d2 (by with_reducible assumption) (by k_mem) | exact ltm_c3 (by with_reducible assumption) (by k_mem) | exact ltm_d3 (by with_reducible assumption) (by k_mem) | exact ltm_c4 (by with_reducible assumption) (by k_mem) | exact ltm_d4 (by with_reducible assumption) (by k_mem) | exact ltm_c5 (by with_reducible assumption) (by k_mem) | exact ltm_d5 (by with_reducible assumption) (by k_mem) | (refine neN ?_; (try dsimp only); omega))
  k_with "k_all" => (first | exact ltm_all (by with_reducible assumption) (by walk_at "mine down") | exact ltm_a1 (by with_reducible assumption) (by walk_at "mine down") | exact ltm_a2 (by with_reducible assumption) (by walk_at "mine down") | exact ltm_a3 (by with_reducible assumption) (by walk_at "mine down") | exact ltm_a4 (by with_reducible assumption) (by walk_at "mine down") | exact ltm_a5 (by with_reducible assumption) (by walk_at "mine down"))
  trivial
open PyProof.Rows.LCg
section
variable {prog : Program} {w : World} {A : Around} {E : Value → Shared → Prop} {s : Shared} {R : Result → Shared → Prop} {h₀ : Heap} {L : Addr} {m : Str → Option Value} {env : Env}
variable {I ax C D : Addr} {j : Nat} {mc : Str → Option Value} {ys : List Value} {news : List (Addr × Obj)}
/-- the end of a comprehension's loop -/
def LEnd (h₀ : Heap) (L : Addr) (m : Str → Option Value) (s₁ : Shared) (C D : Addr) (news : List (Addr × Obj)) (Fin : List Value → Prop) (r : Result) (s' : Shared) : Prop :=
  r = .ok .next ∧ ∃ h' tk' mc' ys, s' = { s₁ with heap := h', toks := tk' } ∧ Fr h₀ L h' m ∧ News h₀ L h' news ∧ h'.Ns C mc' ∧ h'.get? D = some (lst ys) ∧ Fin ys
theorem comp_core {elt target iter : Expr} {ifs : List Expr} {rest : List Comprehension} {scope : Scope} {cl : List (Str × Addr)} {pos : Pos} {s₁ : Shared} {ax : Addr} {its : Array Value} {Fin : List Value → Prop} {RR : Value → Addr → Result → Shared → Prop}
    (hcell : ∀ y ∈ scope.names, y.2 ≠ .cell) (hkind : scope.kind = .function) (F : Fr h₀ L s₁.heap m) (N : News h₀ L s₁.heap news) (S : SrcAt h₀ ax its news)
    (loop : ∀ I C D mc h tk, CW h₀ L m I ax 0 C mc D [] news h → codeAny (model prog w) A (.compLoop (.ListComp elt (⟨target, iter, ifs, 0⟩ :: rest) scope pos) 0 (.ref I) (.ref D) (compEnvC scope cl C env)) (LEnd h₀ L m s₁ C D news Fin) { s₁ with heap := h, toks := tk })
    (hRR : ∀ D C h tk mc ys, Fin ys → Fr h₀ L h m → News h₀ L h ((D, lst ys) :: news) → h.Ns C mc → C ≠ L → h₀.get? C = none → C ≠ D → (∀ p ∈ news, @Ne Nat p.1 D) → (∀ p ∈ news, p.1 ≠ C) → RR (.ref D) C (.ok .next) { s₁ with heap := h, toks := tk }) :
    wpAny (model prog w) A (pyIter (.ref ax)) (fun it s₂ => wpAny (model prog w) A (newList []) (fun acc s₃ =>
      wpAny (model prog w) A (newFunctionEnv scope env.globals cl [] env.qual none .none (some env)) (fun cenv s₄ =>
        codeAny (model prog w) A (.compStart (.ListComp elt (⟨target, iter, ifs, 0⟩ :: rest) scope pos) 0 it acc { cenv with scope := relabel scope env }) (RR acc cenv.locals) s₄) E s₃) E s₂) E s₁ := by
  have hl := S.list F.keep N
  refine wpAny_pyIter_list hl ?_
  refine wpAny_newObj_type (wpAny_newFunctionEnv hcell (by intro y hy; simp at hy) (fun h₁ hns₁ hsb₁ => ?_) hkind)
  dsimp only at hns₁ hsb₁ ⊢
  generalize hI1 : s₁.heap.push { cls := .type "list_iterator", data := .fields #[.ref ax, .int 0 0] } = H1 at hns₁ hsb₁ ⊢
  generalize hH2 : H1.push { cls := .type "list", dict := none, data := .seq ([] : List Value).toArray } = H2 at hns₁ hsb₁ ⊢
  have hz1 : H1.objs.size = s₁.heap.objs.size + 1 := by rw [← hI1, Heap.size_push]
  have hz2 : H2.objs.size = s₁.heap.objs.size + 1 + 1 := by rw [← hH2, Heap.size_push, hz1]
  have up1 : ∀ b o, s₁.heap.get? b = some o → H1.get? b = some o := fun b o e => by rw [← hI1]; exact Heap.get?_push_of_some _ e
  have up2 : ∀ b o, H1.get? b = some o → H2.get? b = some o := fun b o e => by rw [← hH2]; exact Heap.get?_push_of_some _ e
  have up3 : ∀ b o, H2.get? b = some o → h₁.get? b = some o := fun b o e => hsb₁.extBut b o (Nat.ne_of_lt (Heap.lt_size e)) (Heap.get?_push_of_some _ e)
  have up : ∀ b o, s₁.heap.get? b = some o → h₁.get? b = some o := fun b o e => up3 b o (up2 b o (up1 b o e))
  have fresh₀ : ∀ a, s₁.heap.objs.size ≤ a → h₀.get? a = none := fun a ha => by
    cases e : h₀.get? a with
    | none => rfl
    | some o' => exact absurd (Heap.lt_size (F.keep a o' e)) (Nat.not_lt.mpr ha)
  have hLlt : L < s₁.heap.objs.size := F.ns.lt
  have old : ∀ p ∈ news, p.1 < s₁.heap.objs.size := fun p hp => Heap.lt_size (N p hp).1
  have c : CW h₀ L m s₁.heap.objs.size ax 0 H2.objs.size (fun y => ([] : List (Str × Value)).lookup y) H1.objs.size [] news h₁ := {
    F := F.keeps up
    N := N.grown up
    hI := ⟨_, up3 _ _ (up2 _ _ (by rw [← hI1]; exact Heap.get?_push_size _ rfl)), rfl, rfl⟩
    hC := hns₁
    hD := up3 _ _ (by rw [← hH2]; exact Heap.get?_push_size _ rfl)
    oI := ⟨Nat.ne_of_gt hLlt, fresh₀ _ (Nat.le_refl _)⟩
    oC := ⟨by rw [hz2]; exact Nat.ne_of_gt (Nat.lt_succ_of_lt (Nat.lt_succ_of_lt hLlt)), fresh₀ _ (by rw [hz2]; show @LE.le Nat _ _ _; omega)⟩
    oD := ⟨by rw [hz1]; exact Nat.ne_of_gt (Nat.lt_succ_of_lt hLlt), fresh₀ _ (by rw [hz1]; show @LE.le Nat _ _ _; omega)⟩
    off := fun p hp => by rw [hz1, hz2]; exact ⟨Nat.ne_of_lt (old p hp), Nat.ne_of_lt (Nat.lt_succ_of_lt (Nat.lt_succ_of_lt (old p hp))), Nat.ne_of_lt (Nat.lt_succ_of_lt (old p hp))⟩
    IC := by rw [hz2]; show @Ne Nat _ _; omega
    ID := by rw [hz1]; show @Ne Nat _ _; omega
    CD := by rw [hz1, hz2]; show @Ne Nat _ _; omega }
  have loop' := loop _ _ _ _ h₁ (s₁.toks + ([] : List (Str × Value)).length) c
  have all : codeAny (model prog w) A (.compStart (.ListComp elt (⟨target, iter, ifs, 0⟩ :: rest) scope pos) 0 (.ref s₁.heap.objs.size) (.ref H1.objs.size) (compEnvC scope cl H2.objs.size env)) (LEnd h₀ L m s₁ H2.objs.size H1.objs.size news Fin) { s₁ with heap := h₁, toks := s₁.toks + ([] : List (Str × Value)).length } :=
    codeAny_compStart_list loop' (wpAny_pyIter_listiter c.hI loop')
  refine codeAny_mono all fun r s' hr => ?_
  obtain ⟨rfl, h', tk', mc', ys, rfl, F', N', hC', hD', hf⟩ := hr
  refine hRR _ _ h' tk' mc' ys hf F' (fun p hp => ?_) hC' c.oC.1 c.oC.2 c.CD (fun p hp => (c.off p hp).2.2) (fun p hp => (c.off p hp).2.1)
  rcases List.mem_cons.mp hp with rfl | hp
  · exact ⟨hD', c.oD⟩
  · exact N' p hp
/-- what a comprehension's source leaves: a list, a ledger, the loop -/
def CSrc (prog : Program) (w : World) (A : Around) (h₀ : Heap) (L : Addr) (m : Str → Option Value) (env : Env) (elt target iter : Expr) (ifs : List Expr) (rest : List Comprehension) (scope : Scope) (cl : List (Str × Addr)) (pos : Pos)
    (K : Shared → Addr → List Value → List (Addr × Obj) → Prop) (xv : Value) (s₁ : Shared) : Prop :=
  ∃ ax its news Fin, xv = .ref ax ∧ Fr h₀ L s₁.heap m ∧ News h₀ L s₁.heap news ∧ SrcAt h₀ ax its news ∧
      (∀ I C D mc h tk, CW h₀ L m I ax 0 C mc D [] news h → codeAny (model prog w) A (.compLoop (.ListComp elt (⟨target, iter, ifs, 0⟩ :: rest) scope pos) 0 (.ref I) (.ref D) (compEnvC scope cl C env)) (LEnd h₀ L m s₁ C D news Fin) { s₁ with heap := h, toks := tk }) ∧
      (∀ D ys, Fin ys → (∀ p ∈ news, @Ne Nat p.1 D) → K s₁ D ys news)
theorem comp_start {elt target iter : Expr} {ifs : List Expr} {rest : List Comprehension} {scope : Scope} {cl : List (Str × Addr)} {pos : Pos} {Q : Value → Shared → Prop} (F₀ : Fr h₀ L s.heap m)
    (hclos : closureFor scope env = pure cl) (hcell : ∀ y ∈ scope.names, y.2 ≠ .cell) (hkind : scope.kind = .function) (hnames : ∀ y ∈ scope.names, y.2 = .local → scope.names.lookup y.1 = some .local)
    (h : wpAny (model prog w) A (eval iter env) (CSrc prog w A h₀ L m env elt target iter ifs rest scope cl pos fun s₁ D ys news => ∀ h tk, Fr h₀ L h m → News h₀ L h ((D, lst ys) :: news) → Q (.ref D) { s₁ with heap := h, toks := tk }) E s)
    (hs : ∀ x, foldedSetIterable iter env x = pure x) :
    wpAny (model prog w) A (eval (.ListComp elt (⟨target, iter, ifs, 0⟩ :: rest) scope pos) env) Q E s := by
  rw [eval_ListComp]
  refine wpAny_comprehension_free (use := none) rfl hs hclos hkind hnames (wpAny_mono h (fun xv s₁ h₁ => ?_) fun _ _ e => e)
  obtain ⟨ax, its, news, Fin, rfl, F, N, S, loop, fin⟩ := h₁
  refine comp_core hcell hkind F N S loop fun D C h tk mc ys hf F' N' hC' hCL hC₀ hCD off offC => ⟨mc, hC', fun h'' hs'' => fin D ys hf off h'' tk (F'.change hs'' hCL hC₀) fun p hp => ?_⟩
  refine ⟨hs''.extBut _ _ ?_ (N' p hp).1, (N' p hp).2⟩
  rcases List.mem_cons.mp hp with rfl | hp
  · exact Ne.symm hCD
  · exact offC p hp
theorem comp_assign {elt target iter : Expr} {ifs : List Expr} {rest : List Comprehension} {y : Str} {py spos : Pos} {scope : Scope} {cl : List (Str × Addr)} {pos : Pos} {Q : Flow → Shared → Prop} (F₀ : Fr h₀ L s.heap m) (hLe : env.locals = L)
    (hsw : swapsWith (.ListComp elt (⟨target, iter, ifs, 0⟩ :: rest) scope pos) (some (.Name y py)) spos.line env = pure true)
    (hclos : closureFor scope env = pure cl) (hcell : ∀ y ∈ scope.names, y.2 ≠ .cell) (hkind : scope.kind = .function) (hnames : ∀ y ∈ scope.names, y.2 = .local → scope.names.lookup y.1 = some .local)
    (hy : env.kindOf y = some .local) (hp : (env.scope.kind == .class || (env.scope.kind == .module && env.locals != env.globals)) = false)
    (h : wpAny (model prog w) A (eval iter env) (CSrc prog w A h₀ L m env elt target iter ifs rest scope cl pos fun s₁ D ys news => ∀ h tk, Fr h₀ L h (fun z => if z = y then some (.ref D) else m z) → News h₀ L h ((D, lst ys) :: news) → Q .next { s₁ with heap := h, toks := tk }) E s)
    (hs : ∀ x, foldedSetIterable iter env x = pure x) :
    wpAny (model prog w) A (exec (.Assign [.Name y py] (.ListComp elt (⟨target, iter, ifs, 0⟩ :: rest) scope pos) spos) env) Q E s := by
  subst hLe
  rw [exec_Assign_Name_used _ _ _ _ hsw]
  refine wpAny_bind (wpAny_standAt (wpAny_bind ?_))
  show wpAny _ A (do let _ ← comprehension (.ListComp elt (⟨target, iter, ifs, 0⟩ :: rest) scope pos) scope env _ (newList []) false (eval iter env) (some (assign (.Name y py) env))) _ _ s
  refine wpAny_bind (wpAny_mono (wpAny_comprehension_free (use := some (assign (.Name y py) env)) (Q := fun _ s' => Q .next s') rfl hs hclos hkind hnames
    (wpAny_mono h (fun xv s₁ h₁ => ?_) fun _ _ e => e)) (fun _ s' hq => wpAny_pure (wpAny_pure hq)) fun _ _ e => e)
  obtain ⟨ax, its, news, Fin, rfl, F, N, S, loop, fin⟩ := h₁
  refine comp_core hcell hkind F N S loop fun D C h tk mc ys hf F' N' hC' hCL hC₀ hCD off offC => ?_
  show wpAny _ A (assign (.Name y py) env (.ref D)) _ _ _
  refine wpAny_assign_Name (wpAny_storeName_local hy F'.ns (fun h₂ hn₂ hs₂ => ?_) hp)
  have hL₀ : h₀.get? env.locals = none := Heap.get?_none_of_le F'.above
  have F₂ : Fr h₀ env.locals h₂ (fun z => if z = y then some (.ref D) else m z) := ⟨hn₂, fun b o e => hs₂.extBut b o (fun q => by rw [q, hL₀] at e; cases e) (F'.keep b o e), F'.above⟩
  refine ⟨mc, hC'.sameBut hs₂ hCL, fun h'' hs'' => fin D ys hf off h'' _ (F₂.change hs'' hCL hC₀) (fun p hp => ?_)⟩
  have z : h₂.get? p.1 = some p.2 := hs₂.extBut _ _ (N' p hp).2.1 (N' p hp).1
  refine ⟨hs''.extBut _ _ ?_ z, (N' p hp).2⟩
  rcases List.mem_cons.mp hp with rfl | hp
  · exact Ne.symm hCD
  · exact offC p hp

/-- one turn of the outer loop: a pair -/
theorem two_turn {elt iter target2 iter2 : Expr} {ifs : List Expr} {x x₂ : Str} {px px₂ tp : Pos} {tk0} {scope : Scope} {pos : Pos} {its : Array Value} {t : Addr} {v₁ v₂ : Value}
    (hh : A.handled = none) (hC : env.locals = C) (hx : env.kindOf x = some .local) (hx₂ : env.kindOf x₂ = some .local) (hk : env.scope.kind = .function) (hxx : x ≠ x₂) (hs : ∀ x, foldedSetIterable iter2 env x = pure x)
    (c : CW h₀ L m I ax j C mc D ys news s.heap) (S : SrcAt h₀ ax its news) (hj : its[j]? = some (.ref t)) (ht : (t, tupO [v₁, v₂]) ∈ news)
    (step : ∀ h' tk mc' E', mc' x = some v₁ → mc' x₂ = some v₂ → CW h₀ L m I ax (j + 1) C mc' D ys news h' →
      wpAny (model prog w) A (testsOf ifs env) (fun ok s₄ =>
            if ok = true then wpAny (model prog w) A (eval iter2 env) (fun x' s₅ =>
              wpAny (model prog w) A (pyIter x') (fun it2 s₆ => codeAny (model prog w) A (.compStart (.ListComp elt [⟨.Tuple [.Name x px, .Name x₂ px₂] tk0 tp, iter, ifs, 0⟩, ⟨target2, iter2, [], 0⟩] scope pos) 1 it2 (.ref D) env)
                (fun r s' => ∃ f, r = .ok f ∧ codeAny (model prog w) A (.compLoop (.ListComp elt [⟨.Tuple [.Name x px, .Name x₂ px₂] tk0 tp, iter, ifs, 0⟩, ⟨target2, iter2, [], 0⟩] scope pos) 0 (.ref I) (.ref D) env) R s') s₆) E' s₅) E' s₄
            else codeAny (model prog w) A (.compLoop (.ListComp elt [⟨.Tuple [.Name x px, .Name x₂ px₂] tk0 tp, iter, ifs, 0⟩, ⟨target2, iter2, [], 0⟩] scope pos) 0 (.ref I) (.ref D) env) R s₄) E' { s with heap := h', toks := tk }) :
    codeAny (model prog w) A (.compLoop (.ListComp elt [⟨.Tuple [.Name x px, .Name x₂ px₂] tk0 tp, iter, ifs, 0⟩, ⟨target2, iter2, [], 0⟩] scope pos) 0 (.ref I) (.ref D) env) R s := by
  refine turn_two (fun E' => ?_) hs
  refine cw_next c S hj fun h₁ c₁ => ?_
  refine cw_let (s := { s with heap := h₁ }) c₁ ?_
  refine cw_pair (s := { s with heap := h₁ }) hh c₁ ht hC hx hx₂ hk fun h₂ tk₂ c₂ => ?_
  exact step h₂ tk₂ _ E' (by simp [hxx]) (by simp) c₂
/-- the outer loop's end -/
theorem two_end {elt target iter target2 iter2 : Expr} {ifs : List Expr} {scope : Scope} {pos : Pos} {its : Array Value} {s₁ : Shared} {Fin : List Value → Prop} (hh : A.handled = none) (hs : ∀ x, foldedSetIterable iter2 env x = pure x) {h : Heap} {tk : Nat}
    (c : CW h₀ L m I ax j C mc D ys news h) (S : SrcAt h₀ ax its news) (hj : its[j]? = none) (hf : Fin ys) :
    codeAny (model prog w) A (.compLoop (.ListComp elt [⟨target, iter, ifs, 0⟩, ⟨target2, iter2, [], 0⟩] scope pos) 0 (.ref I) (.ref D) env) (LEnd h₀ L m s₁ C D news Fin) { s₁ with heap := h, toks := tk } := by
  refine turn_two (fun E' => ?_) hs
  exact cw_end (s := { s₁ with heap := h, toks := tk }) hh c S hj fun h' F' N' hC' hD' => ⟨rfl, h', tk, mc, ys, rfl, F', N', hC', hD', hf⟩
/-- one turn of a loop with one generator and tests: a pair -/
theorem one_turn {elt iter : Expr} {ifs : List Expr} {x x₂ : Str} {px px₂ tp : Pos} {tk0} {scope : Scope} {pos : Pos} {its : Array Value} {t : Addr} {v₁ v₂ : Value}
    (hh : A.handled = none) (hC : env.locals = C) (hx : env.kindOf x = some .local) (hx₂ : env.kindOf x₂ = some .local) (hk : env.scope.kind = .function) (hxx : x ≠ x₂)
    (c : CW h₀ L m I ax j C mc D ys news s.heap) (S : SrcAt h₀ ax its news) (hj : its[j]? = some (.ref t)) (ht : (t, tupO [v₁, v₂]) ∈ news)
    (step : ∀ h' tk mc' E', mc' x = some v₁ → mc' x₂ = some v₂ → CW h₀ L m I ax (j + 1) C mc' D ys news h' →
      wpAny (model prog w) A (testsOf ifs env) (fun ok s₄ =>
            if ok = true then wpAny (model prog w) A (eval elt env) (fun x' s₅ =>
              wpAny (model prog w) A (call (.builtin "list.append") [.ref D, x']) (fun _ s₆ => codeAny (model prog w) A (.compLoop (.ListComp elt [⟨.Tuple [.Name x px, .Name x₂ px₂] tk0 tp, iter, ifs, 0⟩] scope pos) 0 (.ref I) (.ref D) env) R s₆) E' s₅) E' s₄
            else codeAny (model prog w) A (.compLoop (.ListComp elt [⟨.Tuple [.Name x px, .Name x₂ px₂] tk0 tp, iter, ifs, 0⟩] scope pos) 0 (.ref I) (.ref D) env) R s₄) E' { s with heap := h', toks := tk }) :
    codeAny (model prog w) A (.compLoop (.ListComp elt [⟨.Tuple [.Name x px, .Name x₂ px₂] tk0 tp, iter, ifs, 0⟩] scope pos) 0 (.ref I) (.ref D) env) R s := by
  refine turn_one (fun E' => ?_)
  refine cw_next c S hj fun h₁ c₁ => ?_
  refine cw_let (s := { s with heap := h₁ }) c₁ ?_
  refine cw_pair (s := { s with heap := h₁ }) hh c₁ ht hC hx hx₂ hk fun h₂ tk₂ c₂ => ?_
  exact step h₂ tk₂ _ E' (by simp [hxx]) (by simp) c₂
theorem one_end {elt target iter : Expr} {ifs : List Expr} {scope : Scope} {pos : Pos} {its : Array Value} {s₁ : Shared} {Fin : List Value → Prop} (hh : A.handled = none) {h : Heap} {tk : Nat}
    (c : CW h₀ L m I ax j C mc D ys news h) (S : SrcAt h₀ ax its news) (hj : its[j]? = none) (hf : Fin ys) :
    codeAny (model prog w) A (.compLoop (.ListComp elt [⟨target, iter, ifs, 0⟩] scope pos) 0 (.ref I) (.ref D) env) (LEnd h₀ L m s₁ C D news Fin) { s₁ with heap := h, toks := tk } := by
  refine turn_one (fun E' => ?_)
  exact cw_end (s := { s₁ with heap := h, toks := tk }) hh c S hj fun h' F' N' hC' hD' => ⟨rfl, h', tk, mc, ys, rfl, F', N', hC', hD', hf⟩

/-- the inner loop begun: its iterator made -/
theorem cw_inner {r : Addr} {us : Array Value} {Q : Value → Shared → Prop} (c : CW h₀ L m I ax j C mc D ys news s.heap) (S : SrcAt h₀ r us news)
    (h : ∀ J oI h', oI.cls = .type "list_iterator" → oI.data = .fields #[.ref ax, .int j 0] → CW h₀ L m J r 0 C mc D ys ((I, oI) :: news) h' → J ≠ I → Q (.ref J) { s with heap := h' }) :
    wpAny (model prog w) A (pyIter (.ref r)) Q E s := by
  have hl := S.list c.F.keep c.N
  refine wpAny_pyIter_list hl ?_
  obtain ⟨oI, eI, hc, hd⟩ := c.hI
  have up : ∀ b o, s.heap.get? b = some o → (s.heap.push { cls := .type "list_iterator", data := .fields #[.ref r, .int 0 0] }).get? b = some o := fun b o e => Heap.get?_push_of_some _ e
  have lt : ∀ b o, s.heap.get? b = some o → b ≠ s.heap.objs.size := fun b o e => Nat.ne_of_lt (Heap.lt_size e)
  have hCl : C < s.heap.objs.size := c.hC.lt
  refine h _ oI _ hc hd { F := c.F.keeps up, N := fun p hp => ?_, hI := ⟨_, Heap.get?_push_size _ rfl, rfl, rfl⟩, hC := c.hC.at' fun o e => up _ _ e, hD := up _ _ c.hD, oI := ⟨Nat.ne_of_gt c.F.ns.lt, next_is_new c.F⟩, oC := c.oC, oD := c.oD, off := fun p hp => ?_, IC := Nat.ne_of_gt hCl, ID := Ne.symm (lt _ _ c.hD), CD := c.CD } (Ne.symm (lt _ _ eI))
  · rcases List.mem_cons.mp hp with rfl | hp
    · exact ⟨up _ _ eI, c.oI⟩
    · exact ⟨up _ _ (c.N p hp).1, (c.N p hp).2⟩
  · rcases List.mem_cons.mp hp with rfl | hp
    · exact ⟨lt _ _ eI, c.IC, c.ID⟩
    · exact ⟨lt _ _ (c.N p hp).1, (c.off p hp).2⟩
/-- the inner loop ended: the outer state again -/
theorem CW.back {J r : Addr} {k : Nat} {oI : Obj} {ys' : List Value} {mc' : Str → Option Value} {h h' : Heap} (c : CW h₀ L m I ax j C mc D ys news h) (hc : oI.cls = .type "list_iterator") (hd : oI.data = .fields #[.ref ax, .int j 0])
    (F : Fr h₀ L h' m) (N : News h₀ L h' ((I, oI) :: news)) (hC : h'.Ns C mc') (hD : h'.get? D = some (lst ys')) : CW h₀ L m I ax j C mc' D ys' news h' :=
  { c with F := F, N := fun p hp => N p (.tail _ hp), hI := ⟨oI, (N _ (.head _)).1, hc, hd⟩, hC := hC, hD := hD }

/-- a turn over a family's rows: their VLANs, where the tests hold -/
theorem rows_turn {iter : Expr} {ifs : List Expr} {x x₂ y y₂ : Str} {px px₂ tp py py₂ tp₂ pe p2 : Pos} {tk0 tk1} {scope : Scope} {pos : Pos} {its : Array Value} {t r : Addr} {v₁ : Value} {Rw : List (Int × Str)} {B : Bool}
    (hh : A.handled = none) (hC : env.locals = C) (hx : env.kindOf x = some .local) (hx₂ : env.kindOf x₂ = some .local) (hy : env.kindOf y = some .local) (hy₂ : env.kindOf y₂ = some .local) (hk : env.scope.kind = .function) (hxx : x ≠ x₂) (hyy : y ≠ y₂)
    (hd : (y == ("__debug__" : Str)) = false) (hd₂ : (x₂ == ("__debug__" : Str)) = false)
    (c : CW h₀ L m I ax j C mc D ys news s.heap) (S : SrcAt h₀ ax its news) (hj : its[j]? = some (.ref t)) (ht : (t, tupO [v₁, .ref r]) ∈ news) (hr : RowsAt news r Rw) (hz : ys.length + Rw.length ≤ 100)
    (test : ∀ h' tk mc' E', mc' x = some v₁ → mc' x₂ = some (.ref r) → CW h₀ L m I ax (j + 1) C mc' D ys news h' → wpAny (model prog w) A (testsOf ifs env) (fun ok s₄ => ok = B ∧ ∃ h tk', s₄ = { s with heap := h, toks := tk' } ∧ CW h₀ L m I ax (j + 1) C mc' D ys news h) E' { s with heap := h', toks := tk })
    (K : ∀ h' tk mc' zs, IntsAre zs (if B = true then Rw.map Prod.fst else []) → CW h₀ L m I ax (j + 1) C mc' D (ys ++ zs) news h' →
      codeAny (model prog w) A (.compLoop (.ListComp (.Name y pe) [⟨.Tuple [.Name x px, .Name x₂ px₂] tk0 tp, iter, ifs, 0⟩, ⟨.Tuple [.Name y py, .Name y₂ py₂] tk1 tp₂, .Name x₂ p2, [], 0⟩] scope pos) 0 (.ref I) (.ref D) env) R { s with heap := h', toks := tk }) :
    codeAny (model prog w) A (.compLoop (.ListComp (.Name y pe) [⟨.Tuple [.Name x px, .Name x₂ px₂] tk0 tp, iter, ifs, 0⟩, ⟨.Tuple [.Name y py, .Name y₂ py₂] tk1 tp₂, .Name x₂ p2, [], 0⟩] scope pos) 0 (.ref I) (.ref D) env) R s := by
  refine two_turn hh hC hx hx₂ hk hxx (fun _ => rfl) c S hj ht fun h' tk mc' E' e1 e2 c' => ?_
  refine wpAny_mono (test h' tk mc' E' e1 e2 c') (fun ok s₄ q => ?_) fun _ _ e => e
  obtain ⟨rfl, h₄, tk₄, rfl, c₄⟩ := q
  cases ok with
  | false =>
    have := K h₄ tk₄ mc' [] .nil (by rw [List.append_nil]; exact c₄)
    exact this
  | true =>
    simp only [if_true] at K ⊢
    refine cw_load (s := { s with heap := h₄, toks := tk₄ }) c₄ hC hx₂ hk e2 hd₂ ?_
    obtain ⟨us, n, hm, rows⟩ := hr
    obtain ⟨hl, rw'⟩ := rows_of rows
    refine cw_inner (s := { s with heap := h₄, toks := tk₄ }) c₄ (us := us.toArray) (.inr ⟨_, hm, rfl, _, rfl⟩) fun J oI h₅ hc₅ hd₅ c₅ _ => ?_
    refine start_inner (s := { s with heap := h₅, toks := tk₄ }) c₅.hI ?_
    refine inner_pair hh hC hy hy₂ hk hyy hd (us := us) (Rw := Rw) (.inr ⟨_, .tail _ hm, rfl, _, rfl⟩) (fun i hi => ?_) hl us.length 0 ys mc' { s with heap := h₅, toks := tk₄ } (Nat.zero_add _) (by omega) c₅ fun h₆ tk₆ mc₆ zs hz F₆ N₆ hC₆ hD₆ => ⟨_, rfl, ?_⟩
    · obtain ⟨u, v, k, t1, t2, q1, q2, q3⟩ := rw' i hi
      exact ⟨u, v, k, t1, t2, q1, q2, .tail _ q3⟩
    · exact K h₆ tk₆ mc₆ zs (by rw [List.drop_zero] at hz; exact hz) (c₄.back (J := J) (r := r) (k := 0) hc₅ hd₅ F₆ N₆ hC₆ hD₆)
end
end Mine
namespace Mine
theorem rowsP20_0 : True := by
  k_with_none
  k_with "mine down" => (first | exact fun _ h => h | (refine dn ?_; walk_at "mine down"))
  k_with "k_ne" => (first | with_reducible assumption | exact Ne.symm (by with_reducible assumption) | exact ltm_ne (by with_reducible assumption) (by k_mem) | exact ltm_en (by with_reducible assumption) (by k_mem) | exact Nat.ne_of_lt (by with_reducible assumption) | exact Nat.ne_of_gt (by with_reducible assumption) | exact ltm_c1 (by with_reducible assumption) (by k_mem) | exact ltm_d1 (by with_reducible assumption) (by k_mem) | exact ltm_c2 (by with_reducible assumption) (by k_mem) | exact ltm_d2 (by with_reducible assumption) (by k_mem) | exact ltm_c3 (by with_reducible assumption) (by k_mem) | exact ltm_d3 (by with_reducible assumption) (by k_mem) | exact ltm_c4 (by with_reducible assumption) (by k_mem) | exact ltm_d4 (by with_reducible assumption) (by k_mem) | exact ltm_c5 (by with_reducible assumption) (by k_mem) | exact ltm_d5 (by with_reducible assumption) (by k_mem) | (refine neN ?_; (try dsimp only); omega))
  k_with "k_all" => (first | exact ltm_all (by with_reducible assumption) (by walk_at "mine down") | exact ltm_a1 (by with_reducible assumption) (by walk_at "mine down") | exact ltm_a2 (by with_reducible assumption) (by walk_at "mine down") | exact ltm_a3 (by with_reducible assumption) (by walk_at "mine down") | exact ltm_a4 (by with_reducible assumption) (by walk_at "mine down") | exact ltm_a5 (by with_reducible assumption) (by walk_at "mine down"))
  trivial
open PyProof.Rows.LCg
section
variable {prog : Program} {w : World} {A : Around} {E : Value → Shared → Prop} {s : Shared} {R : Result → Shared → Prop} {h₀ : Heap} {L : Addr} {m : Str → Option Value} {env : Env}
variable {I ax C D : Addr} {j : Nat} {mc : Str → Option Value} {ys : List Value} {news : List (Addr × Obj)}
/-- a loop with one generator over rows: their first names drawn -/
theorem one_rows {iter : Expr} {x x₂ : Str} {px px₂ tp pe : Pos} {tk0} {scope : Scope} {pos : Pos} {us : List Value} {Rw : List (Int × Str)} {s₁ : Shared}
    (hh : A.handled = none) (hC : env.locals = C) (hx : env.kindOf x = some .local) (hx₂ : env.kindOf x₂ = some .local) (hk : env.scope.kind = .function) (hxx : x ≠ x₂) (hd : (x == ("__debug__" : Str)) = false)
    (S : SrcAt h₀ ax us.toArray news) (rows : ∀ i, i < us.length → ∃ u v k t1 t2, us[i]? = some (.ref u) ∧ Rw[i]? = some (v, k) ∧ (u, tupO [.int v t1, .str k t2]) ∈ news) (hl : us.length = Rw.length) :
    ∀ (n i : Nat) (ys : List Value) (mc : Str → Option Value) (h : Heap) (tk : Nat), i + n = us.length → ys.length + n ≤ 100 → CW h₀ L m I ax i C mc D ys news h → IntsAre ys ((Rw.take i).map Prod.fst) →
    codeAny (model prog w) A (.compLoop (.ListComp (.Name x pe) [⟨.Tuple [.Name x px, .Name x₂ px₂] tk0 tp, iter, [], 0⟩] scope pos) 0 (.ref I) (.ref D) env) (LEnd h₀ L m s₁ C D news fun ys => IntsAre ys (Rw.map Prod.fst)) { s₁ with heap := h, toks := tk } := by
  intro n
  induction n with
  | zero =>
    intro i ys mc h tk hi _ c hy
    refine one_end hh c S (by rw [List.getElem?_toArray]; exact List.getElem?_eq_none (by omega)) ?_
    rw [List.take_of_length_le (by omega)] at hy; exact hy
  | succ n ih =>
    intro i ys mc h tk hi hz c hy
    obtain ⟨u, v, k, t1, t2, hu, hr, hm⟩ := rows i (by omega)
    refine one_turn (s := { s₁ with heap := h, toks := tk }) hh hC hx hx₂ hk hxx c S (by rw [List.getElem?_toArray]; exact hu) hm fun h₁ tk₁ mc₁ E' e1 e2 c₁ => ?_
    refine wpAny_tests_nil ?_
    simp only [if_true]
    refine cw_load (s := { s₁ with heap := h₁, toks := tk₁ }) c₁ hC hx hk e1 hd ?_
    refine cw_app (s := { s₁ with heap := h₁, toks := tk₁ }) c₁ (by omega) fun h₂ c₂ => ?_
    refine ih (i + 1) _ _ h₂ tk₁ (by omega) (by rw [List.length_append, List.length_singleton]; omega) c₂ ?_
    rw [List.take_add_one, hr, List.map_append]
    exact ints_snoc hy
/-- the source of a comprehension over rows -/
def RowsSrc (A : Around) (h₀ : Heap) (L : Addr) (m : Str → Option Value) (K : Shared → Addr → List Value → List (Addr × Obj) → Prop) (xv : Value) (s₁ : Shared) : Prop :=
  ∃ r news Rw, xv = .ref r ∧ A.handled = none ∧ Fr h₀ L s₁.heap m ∧ News h₀ L s₁.heap news ∧ RowsAt news r Rw ∧ Rw.length ≤ 100 ∧ ∀ D ys, IntsAre ys (Rw.map Prod.fst) → (∀ p ∈ news, @Ne Nat p.1 D) → K s₁ D ys news
theorem RowsSrc.intro {K : Shared → Addr → List Value → List (Addr × Obj) → Prop} {s₁ : Shared} {r : Addr} {Rw : List (Int × Str)} (hh : A.handled = none) (F : Fr h₀ L s₁.heap m) (N : News h₀ L s₁.heap news) (hr : RowsAt news r Rw) (hz : Rw.length ≤ 100)
    (h : ∀ D ys, IntsAre ys (Rw.map Prod.fst) → (∀ p ∈ news, @Ne Nat p.1 D) → K s₁ D ys news) : RowsSrc A h₀ L m K (.ref r) s₁ := ⟨r, news, Rw, rfl, hh, F, N, hr, hz, h⟩
theorem RowsAt.mono {a b : List (Addr × Obj)} {r : Addr} {Rw : List (Int × Str)} (x : RowsAt a r Rw) (h : ∀ p ∈ a, p ∈ b) : RowsAt b r Rw := let ⟨us, n, hm, q⟩ := x; ⟨us, n, h _ hm, q.mono h⟩
theorem list_rows {iter : Expr} {x x₂ : Str} {px px₂ tp pe : Pos} {tk0} {scope : Scope} {cl : List (Str × Addr)} {pos : Pos} {Q : Value → Shared → Prop} (F₀ : Fr h₀ L s.heap m)
    (hclos : closureFor scope env = pure cl) (hcell : ∀ y ∈ scope.names, y.2 ≠ .cell) (hkind : scope.kind = .function) (hnames : ∀ y ∈ scope.names, y.2 = .local → scope.names.lookup y.1 = some .local)
    (hx : scope.names.lookup x = some .local) (hx₂ : scope.names.lookup x₂ = some .local) (hxx : x ≠ x₂) (hd : (x == ("__debug__" : Str)) = false)
    (h : wpAny (model prog w) A (eval iter env) (RowsSrc A h₀ L m fun s₁ D ys news => ∀ h tk, Fr h₀ L h m → News h₀ L h ((D, lst ys) :: news) → Q (.ref D) { s₁ with heap := h, toks := tk }) E s)
    (hs : ∀ x, foldedSetIterable iter env x = pure x := by intro _; rfl) :
    wpAny (model prog w) A (eval (.ListComp (.Name x pe) [⟨.Tuple [.Name x px, .Name x₂ px₂] tk0 tp, iter, [], 0⟩] scope pos) env) Q E s := by
  refine comp_start F₀ hclos hcell hkind hnames (wpAny_mono h (fun xv s₁ q => ?_) fun _ _ e => e) hs
  obtain ⟨r, news, Rw, rfl, hh, F, N, ⟨us, n, hm, q⟩, hz, K⟩ := q
  obtain ⟨hl, rw'⟩ := rows_of q
  refine ⟨r, us.toArray, news, fun ys => IntsAre ys (Rw.map Prod.fst), rfl, F, N, .inr ⟨_, hm, rfl, _, rfl⟩, fun I C D mc h tk c => ?_, fun D ys hf off => K D ys hf off⟩
  exact one_rows (env := compEnvC scope cl C env) hh rfl (lookup_relabel_local hx) (lookup_relabel_local hx₂) (by simp [compEnvC, relabel, hkind]) hxx hd (.inr ⟨_, hm, rfl, _, rfl⟩) rw' hl us.length 0 [] mc h tk (Nat.zero_add _) (by rw [hl]; show 0 + _ ≤ _; omega) c .nil

/-- a test seen by a walk in a comprehension -/
def TestAt (prog : Program) (w : World) (A : Around) (h₀ : Heap) (L : Addr) (m : Str → Option Value) (env : Env) (scope : Scope) (cl : List (Str × Addr)) (x x₂ : Str) (ct : Expr) (s : Shared) (news : List (Addr × Obj)) (v r : Value) (B : Bool) : Prop :=
  ∀ I oI C oC D ys mc h tk Q E', NsObj oC mc → mc x = some v → mc x₂ = some r → Fr h₀ L h m → News h₀ L h ((I, oI) :: (C, oC) :: (D, lst ys) :: news) → Off3 I C D news → ((@Ne Nat I C) ∧ (@Ne Nat I D) ∧ (@Ne Nat C D)) →
    (∀ b h' tk', b = B → Fr h₀ L h' m → News h₀ L h' ((I, oI) :: (C, oC) :: (D, lst ys) :: news) → Q b { s with heap := h', toks := tk' }) →
    wpAny (model prog w) A (isTrue ct (compEnvC scope cl C env) (eval ct (compEnvC scope cl C env))) Q E' { s with heap := h, toks := tk }
theorem TestAt.cw {scope : Scope} {cl : List (Str × Addr)} {x x₂ : Str} {ct : Expr} {v r : Value} {B : Bool} (T : TestAt prog w A h₀ L m env scope cl x x₂ ct s news v r B) {h : Heap} {tk : Nat} (c : CW h₀ L m I ax j C mc D ys news h) (e1 : mc x = some v) (e2 : mc x₂ = some r) {Q : Bool → Shared → Prop}
    (hQ : ∀ h' tk', CW h₀ L m I ax j C mc D ys news h' → Q B { s with heap := h', toks := tk' }) :
    wpAny (model prog w) A (testsOf [ct] (compEnvC scope cl C env)) Q E { s with heap := h, toks := tk } := by
  obtain ⟨oI, oC, hc, hd, hC, N⟩ := c.led
  refine wpAny_tests_one (T I oI C oC D ys mc h tk Q E hC e1 e2 c.F N c.off3 ⟨c.IC, c.ID, c.CD⟩ fun b h' tk' hb F' N' => ?_)
  rw [hb]
  exact hQ h' tk' (c.of hc hd hC F' N' c.off3)
/-- [x for (x, x₂) in families if test] -/
theorem fam_filter {iter ct : Expr} {x x₂ : Str} {px px₂ tp pe : Pos} {tk0} {scope : Scope} {cl : List (Str × Addr)} {pos : Pos} {K : Shared → Addr → List Value → List (Addr × Obj) → Prop} {f a1 a2 : Addr} {n : Nat} {v₁ v₂ r₁ r₂ : Value} {B1 B2 : Bool}
    (hh : A.handled = none) (hkind : scope.kind = .function) (hx : scope.names.lookup x = some .local) (hx₂ : scope.names.lookup x₂ = some .local) (hxx : x ≠ x₂) (hd : (x == ("__debug__" : Str)) = false)
    (F : Fr h₀ L s.heap m) (N : News h₀ L s.heap news) (hf : (f, listOf #[.ref a1, .ref a2] n) ∈ news) (h1 : (a1, tupO [v₁, r₁]) ∈ news) (h2 : (a2, tupO [v₂, r₂]) ∈ news)
    (T1 : TestAt prog w A h₀ L m env scope cl x x₂ ct s news v₁ r₁ B1) (T2 : TestAt prog w A h₀ L m env scope cl x x₂ ct s news v₂ r₂ B2)
    (hK : ∀ D, (∀ p ∈ news, @Ne Nat p.1 D) → K s D ((if B1 = true then [v₁] else []) ++ (if B2 = true then [v₂] else [])) news) :
    CSrc prog w A h₀ L m env (.Name x pe) (.Tuple [.Name x px, .Name x₂ px₂] tk0 tp) iter [ct] [] scope cl pos K (.ref f) s := by
  have S : SrcAt h₀ f #[.ref a1, .ref a2] news := .inr ⟨_, hf, rfl, _, rfl⟩
  refine ⟨f, #[.ref a1, .ref a2], news, fun ys => ys = (if B1 = true then [v₁] else []) ++ (if B2 = true then [v₂] else []), rfl, F, N, S, fun I C D mc h tk c => ?_, fun D ys e off => e ▸ hK D off⟩
  have hkd : (compEnvC scope cl C env).scope.kind = .function := by simp [compEnvC, relabel, hkind]
  have key : ∀ (v r : Value) (B : Bool) (t : Addr) (i : Nat) (ys : List Value) (mc : Str → Option Value) (h : Heap) (tk : Nat), TestAt prog w A h₀ L m env scope cl x x₂ ct s news v r B → (#[.ref a1, .ref a2] : Array Value)[i]? = some (.ref t) → (t, tupO [v, r]) ∈ news → ys.length ≤ 10 → CW h₀ L m I f i C mc D ys news h →
      (∀ mc' h' tk', CW h₀ L m I f (i + 1) C mc' D (ys ++ if B = true then [v] else []) news h' → codeAny (model prog w) A (.compLoop (.ListComp (.Name x pe) [⟨.Tuple [.Name x px, .Name x₂ px₂] tk0 tp, iter, [ct], 0⟩] scope pos) 0 (.ref I) (.ref D) (compEnvC scope cl C env)) (LEnd h₀ L m s C D news fun ys => ys = (if B1 = true then [v₁] else []) ++ (if B2 = true then [v₂] else [])) { s with heap := h', toks := tk' }) →
      codeAny (model prog w) A (.compLoop (.ListComp (.Name x pe) [⟨.Tuple [.Name x px, .Name x₂ px₂] tk0 tp, iter, [ct], 0⟩] scope pos) 0 (.ref I) (.ref D) (compEnvC scope cl C env)) (LEnd h₀ L m s C D news fun ys => ys = (if B1 = true then [v₁] else []) ++ (if B2 = true then [v₂] else [])) { s with heap := h, toks := tk } := by
    intro v r B t i ys mc h tk T hi ht hz c k
    refine one_turn (s := { s with heap := h, toks := tk }) hh rfl (lookup_relabel_local hx) (lookup_relabel_local hx₂) hkd hxx c S hi ht fun h₁ tk₁ mc₁ E' e1 e2 c₁ => ?_
    refine T.cw c₁ e1 e2 fun h₂ tk₂ c₂ => ?_
    cases B with
    | false =>
      simp only [Bool.false_eq_true, if_false] at k ⊢
      exact k mc₁ h₂ tk₂ (by rw [List.append_nil]; exact c₂)
    | true =>
      simp only [if_true] at k ⊢
      refine cw_load (s := { s with heap := h₂, toks := tk₂ }) c₂ rfl (lookup_relabel_local hx) hkd e1 hd ?_
      exact cw_app (s := { s with heap := h₂, toks := tk₂ }) c₂ (by omega) fun h₃ c₃ => k mc₁ h₃ tk₂ c₃
  refine key v₁ r₁ B1 a1 0 [] mc h tk T1 rfl h1 (by show 0 ≤ 10; omega) c fun mc' h' tk' c' => ?_
  refine key v₂ r₂ B2 a2 1 _ mc' h' tk' T2 rfl h2 (by cases B1 <;> (simp)) c' fun mc'' h'' tk'' c'' => ?_
  exact one_end hh c'' S rfl (by rw [List.nil_append])
end
end Mine
namespace Mine
theorem rowsP21_0 : True := by
  k_with_none
  k_with "mine down" => (first | exact fun _ h => h | (refine dn ?_; walk_at "mine down"))
  k_with "k_ne" => (first | with_reducible assumption | exact Ne.symm (by with_reducible assumption) | exact ltm_ne (by with_reducible assumption) (by k_mem) | exact ltm_en (by with_reducible assumption) (by k_mem) | exact Nat.ne_of_lt (by with_reducible assumption) | exact Nat.ne_of_gt (by with_reducible assumption) | exact ltm_c1 (by with_reducible assumption) (by k_mem) | exact ltm_d1 (by with_reducible assumption) (by k_mem) | exact ltm_c2 (by with_reducible assumption) (by k_mem) | exact ltm_d2 (by with_reducible assumption) (by k_mem) | exact ltm_c3 (by with_reducible assumption) (by k_mem) | exact ltm_d3 (by with_reducible assumption) (by k_mem) | exact ltm_c4 (by with_reducible assumption) (by k_mem) | exact ltm_d4 (by with_reducible assumption) (by k_mem) | exact ltm_c5 (by with_reducible assumption) (by k_mem) | exact ltm_d5 (by with_reducible assumption) (by k_mem) | (refine neN ?_; (try dsimp only); omega))
  k_with "k_all" => (first | exact ltm_all (by with_reducible assumption) (by walk_at "mine down") | exact ltm_a1 (by with_reducible assumption) (by walk_at "mine down") | exact ltm_a2 (by with_reducible assumption) (by walk_at "mine down") | exact ltm_a3 (by with_reducible assumption) (by walk_at "mine down") | exact ltm_a4 (by with_reducible assumption) (by walk_at "mine down") | exact ltm_a5 (by with_reducible assumption) (by walk_at "mine down"))
  trivial
theorem fill21 : (hd.heap_1 = hd.heap_1) ∧ (PySem.Challenge.rw_pb0538_01 = PySem.Challenge.rw_pb0538_01) := by k_fill; exact ⟨rfl, rfl⟩
theorem rowsP21_1 : True := by
  k_with "mine cx" => exact ⟨by k_asm, by k_asm, by k_asm, by k_asm, by k_asm, by first | exact rfl | assumption⟩
  k_with "mine sub" => (first | exact fun _ h => h | exact sub_skip (fun _ h => h) | exact sub_skip (sub_skip (fun _ h => h)) | exact sub_skip (sub_skip (sub_skip (fun _ h => h))) | exact sub_skip (sub_skip (sub_skip (sub_skip (fun _ h => h)))) | exact sub_skip (sub_skip (sub_skip (sub_skip (sub_skip (fun _ h => h))))) | exact sub_skip (sub_skip (sub_skip (sub_skip (sub_skip (sub_skip (fun _ h => h)))))) | exact sub_keep (sub_skip (fun _ h => h)) | exact sub_keep (sub_skip (sub_skip (fun _ h => h))) | exact sub_keep (sub_skip (sub_skip (sub_skip (fun _ h => h)))) | exact sub_keep (sub_skip (sub_skip (sub_skip (sub_skip (fun _ h => h))))) | exact sub_keep (sub_skip (sub_skip (sub_skip (sub_skip (sub_skip (fun _ h => h)))))) | exact sub_keep (sub_skip (sub_skip (sub_skip (sub_skip (sub_skip (sub_skip (fun _ h => h))))))))
  k_with "mine priv" => (first | assumption | exact PrivAt.mono (by assumption) (by walk_at "mine sub"))
  k_with "mine dict" => (first | assumption | exact DictAt.mono (by assumption) (by walk_at "mine sub"))
  k_with "mine room" => ((try simp only [depth_under_make, depth_under_kw, depth_in1, depth_deeper, depth_caller, units_in1, units_deeper, Around.mark_units, units_caller]); (try dsimp only [ktrTop]); omega)
  k_with "k_all" => assumption
  k_with "k_mem" => (first | exact List.Mem.head _ | ktr_member | (refine' List.mem_cons_of_mem _ ?_; k_mem))
  k_with "mine fresh" => (first | assumption | exact ltm_all (by with_reducible assumption) (by walk_at "mine down") | exact lt_ne (by assumption) | exact allLt_ne (by k_asm) | exact off1_mem (by k_asm) | (rename _ ∧ _ => o9; first | exact off1_mem o9.2 | exact off1_mem o9.2.2 | exact off1_mem o9.2.2.2 | exact allLt_ne o9.2 | exact allLt_ne o9.2.2 | exact allLt_ne o9.2.2.2))
  k_with "mine pull" => (repeat' (first | exact Pull.head | refine' Pull.tail ?_))
  k_with "mine in" => (first | exact List.Mem.head _ | (refine' List.Mem.tail _ ?_; walk_at "mine in"))
  k_with "mine rows" => (first | exact RowsIn.nil | (refine' RowsIn.cons ⟨_, _, ?zqm⟩ ?_; (case zqm => walk_at "mine in"); walk_at "mine rows"))
  k_with "mine off" => (first | assumption | (refine List.forall_mem_cons.mpr ⟨by k_ne, ?_⟩; walk_at "mine off"))
  k_with "mine fam" => (refine' ⟨_, _, _, _, _, _, _, ?zqm1, ?zqm2, ?zqm3, ⟨_, _, ?zqm4, ?zqm5⟩, _, _, ?zqm6, ?zqm7⟩; (case zqm1 => walk_at "mine in"); (case zqm2 => walk_at "mine in"); (case zqm3 => walk_at "mine in"); (case zqm4 => walk_at "mine in"); (case zqm5 => walk_at "mine rows"); (case zqm6 => walk_at "mine in"); (case zqm7 => walk_at "mine rows"))
  k_with "mine enterC" => (refine' code_defC ?zqk1 ?zqk2 ?zqk3 ?zqk4 ?zqk5 ?zqkA ?zqkF ?zqkK ?zqk6 ?zqk7 ?zqk8 ?zqk9 ?zqkB ?zqkD ?_ ?zqc2 ?zqc3 ?zqc4; (case zqkA => exact rfl); (case zqkF => exact rfl); (case zqkK => assumption); (case zqk1 => k_asm); (case zqk2 => k_asm); (case zqk3 => k_asm); (case zqk4 => k_asm); (case zqk5 => k_asm); (case zqk6 => k_is); (case zqk7 => k_is); (case zqk8 => ktr_room); (case zqk9 => exact BindsTo.of_eq rfl); (case zqkB => exact rfl); (case zqkD => decide +kernel); (case zqc2 => exact rfl); (case zqc3 => exact rfl); (case zqc4 => exact rfl); k_whole; intro g' L' h' tk' cells' FG' F' N' Y' B' X' T' l1; (try k_lt l1); k_cells Y'; (try simp only [List.cons_append, List.nil_append] at N'); (try dsimp only); (try k_fold))
  k_with "exec Assign cons ListComp" => (k_here; k_dflt (refine comp_assign (F₀ := by k_asm) (by rfl) (by with_unfolding_all rfl) (by with_unfolding_all rfl) (by decide) (by rfl) (by decide) (by rfl) (by rfl) ?_ (fun _ => rfl)))
  k_with "eval ListComp" => (k_here; lcp_look; lcg_calm; k_dflt (refine list_rows (F₀ := by k_asm) (by with_unfolding_all rfl) (by decide) (by rfl) (by decide) (by rfl) (by rfl) (by decide) (by decide) ?_))
  k_with "RowsSrc" => (k_here; k_dflt (refine RowsSrc.intro (by rfl) (by k_asm) (by k_asm) (RowsAt.mono (by assumption) (by walk_at "mine sub")) (by assumption) ?_); intro D' ys' hi' off' h' tk' F' N')
  k_with "compareOp In int ref" => (k_here; (with_reducible show wpAny _ _ (compareOp CmpOp.In (Value.int _ _) (Value.ref _)) _ _ _); k_dflt (refine in_list_ints (by exact ⟨_, (News.get (by k_asm) (by k_mem)), rfl, _, rfl⟩) (by assumption) ?_))
  trivial
section
variable {w : World} {mean : ExcName → Option Value} {mg mb : Str → Option Value} {dp un : Nat} {gd : Option (List Code)} {cn : Str} {cs : Scope} {a : Addr} {ccd : Value} {cl : List (Str × Addr)} {outer : List Env} {A₀ : Around} {base h₀ : Heap} {L : Addr} {m : Str → Option Value} {s : Shared} {news : List (Addr × Obj)} {Q E : Value → Shared → Prop}
  {P kd pd od md : Addr} {DK : List (Int × Str)} {DP DH DM : List (Int × Int)}
def prB (c : Int) (R : List (Int × Str)) (v : Int) : Bool := decide (v = c) || (R.map Prod.fst).any (· == v)
def primF (R1 R2 : List (Int × Str)) (v : Int) : Int := if prB 100 R1 v = true then 100 else if prB 200 R2 v = true then 200 else v
theorem prB_1 {c v : Int} {R : List (Int × Str)} (h : v = c) : true = prB c R v := by unfold prB; rw [decide_eq_true h]; rfl
theorem prB_2 {c v : Int} {R : List (Int × Str)} (h : (R.map Prod.fst).any (· == v) = true) : true = prB c R v := by unfold prB; rw [h, Bool.or_true]
theorem prB_0 {c v : Int} {R : List (Int × Str)} (h : v ≠ c) (h' : (R.map Prod.fst).any (· == v) = false) : false = prB c R v := by unfold prB; rw [decide_eq_false h, Bool.false_or]; exact h'.symm
theorem primF_1 {R1 R2 : List (Int × Str)} {v : Int} (e : prB 100 R1 v = true) {t : Tok} : IsI (primF R1 R2 v) (.int 100 t) := ⟨t, by unfold primF; rw [if_pos e]⟩
theorem primF_2 {R1 R2 : List (Int × Str)} {v : Int} (e : prB 100 R1 v = false) (e2 : prB 200 R2 v = true) {t : Tok} : IsI (primF R1 R2 v) (.int 200 t) := ⟨t, by unfold primF; rw [if_neg (by rw [e]; decide), if_pos e2]⟩
theorem primF_0 {R1 R2 : List (Int × Str)} {v : Int} (e : prB 100 R1 v = false) (e2 : prB 200 R2 v = false) {t : Tok} : IsI (primF R1 R2 v) (.int v t) := ⟨t, by unfold primF; rw [if_neg (by rw [e]; decide), if_neg (by rw [e2]; decide)]⟩
theorem rowsP21_2 : True := by
  k_with "mine prB" => (first | exact prB_1 (by assumption) | exact prB_2 (by assumption) | exact prB_0 (by assumption) (by assumption))
  trivial
theorem c_primary {f : Addr} {R1 R2 : List (Int × Str)} (cx : Cx w mean mg mb outer A₀ base h₀ L m cs s.heap news) (hd : dp + 2 ≤ 500) (hu : un + 20 ≤ 5000) (fm : FamAt news f R1 R2) (z1 : R1.length ≤ 100) (z2 : R2.length ≤ 100) (v : Int) (t : Tok)
    (ret : Ret h₀ L m s Q news (IsI (primF R1 R2 v))) :
    wpAny (model PR w) (ktrTop dp un gd cn cs L a ccd cl outer) (call (.ref 218) [.ref f, .int v t]) Q E s := by
  obtain ⟨B, F, X, N, T, hk⟩ := cx
  obtain ⟨n, a1, a2, r1, r2, t1, t2, m1, m2, m3, q1, q2⟩ := fm
  refine wpAny_call ?_
  k_dflt (walk_at "mine enterC")
  k_steps
  k_dflt (refine' fam_filter (B1 := prB 100 R1 v) (B2 := prB 200 R2 v) ?hh (by rfl) (by rfl) (by rfl) (by decide) (by decide) ?F ?N ?m1 ?m2 ?m3 ?T1 ?T2 ?K; (case hh => rfl); (case F => k_asm); (case N => k_asm); (case m1 => k_mem); (case m2 => k_mem); (case m3 => k_mem))
  case T1 =>
    intro I' oI' C' oC' D' ys' mc' h' tk' Q' E' hC' hx' hy' F' N' off' ne' hQ'
    k_steps
    all_goals exact hQ' _ _ _ (by walk_at "mine prB") (by k_asm) (newsSub (by k_asm) (by walk_at "mine sub"))
  case T2 =>
    intro I' oI' C' oC' D' ys' mc' h' tk' Q' E' hC' hx' hy' F' N' off' ne' hQ'
    k_steps
    all_goals exact hQ' _ _ _ (by walk_at "mine prB") (by k_asm) (newsSub (by k_asm) (by walk_at "mine sub"))
  case K =>
    intro D' off' h' tk' F' N'
    cases e1 : prB 100 R1 v <;> cases e2 : prB 200 R2 v <;> simp only [e1, e2, if_true, if_false, Bool.false_eq_true, List.nil_append, List.append_nil, List.cons_append] at N'
    all_goals k_steps
    all_goals exact ret _ _ _ (by k_asm) (newsSub (by k_asm) (by walk_at "mine sub")) (by first | exact primF_1 (by assumption) | exact primF_2 (by assumption) (by assumption) | exact primF_0 (by assumption) (by assumption))
end
end Mine
namespace Mine
theorem rowsP22_0 : True := by
  k_with_none
  k_with "mine down" => (first | exact fun _ h => h | (refine dn ?_; walk_at "mine down"))
  k_with "k_ne" => (first | with_reducible assumption | exact Ne.symm (by with_reducible assumption) | exact ltm_ne (by with_reducible assumption) (by k_mem) | exact ltm_en (by with_reducible assumption) (by k_mem) | exact Nat.ne_of_lt (by with_reducible assumption) | exact Nat.ne_of_gt (by with_reducible assumption) | exact ltm_c1 (by with_reducible assumption) (by k_mem) | exact ltm_d1 (by with_reducible assumption) (by k_mem) | exact ltm_c2 (by with_reducible assumption) (by k_mem) | exact ltm_d2 (by with_reducible assumption) (by k_mem) | exact ltm_c3 (by with_reducible assumption) (by k_mem) | exact ltm_d3 (by with_reducible assumption) (by k_mem) | exact ltm_c4 (by with_reducible assumption) (by k_mem) | exact ltm_d4 (by with_reducible assumption) (by k_mem) | exact ltm_c5 (by with_reducible assumption) (by k_mem) | exact ltm_d5 (by with_reducible assumption) (by k_mem) | (refine neN ?_; (try dsimp only); omega))
  k_with "k_all" => (first | exact ltm_all (by with_reducible assumption) (by walk_at "mine down") | exact ltm_a1 (by with_reducible assumption) (by walk_at "mine down") | exact ltm_a2 (by with_reducible assumption) (by walk_at "mine down") | exact ltm_a3 (by with_reducible assumption) (by walk_at "mine down") | exact ltm_a4 (by with_reducible assumption) (by walk_at "mine down") | exact ltm_a5 (by with_reducible assumption) (by walk_at "mine down"))
  trivial
theorem fill22 : (hd.heap_1 = hd.heap_1) ∧ (PySem.Challenge.rw_pb0538_01 = PySem.Challenge.rw_pb0538_01) := by k_fill; exact ⟨rfl, rfl⟩
theorem rowsP22_1 : True := by
  k_with "mine cx" => exact ⟨by k_asm, by k_asm, by k_asm, by k_asm, by k_asm, by first | exact rfl | assumption⟩
  k_with "mine sub" => (first | exact fun _ h => h | exact sub_skip (fun _ h => h) | exact sub_skip (sub_skip (fun _ h => h)) | exact sub_skip (sub_skip (sub_skip (fun _ h => h))) | exact sub_skip (sub_skip (sub_skip (sub_skip (fun _ h => h)))) | exact sub_skip (sub_skip (sub_skip (sub_skip (sub_skip (fun _ h => h))))) | exact sub_skip (sub_skip (sub_skip (sub_skip (sub_skip (sub_skip (fun _ h => h)))))) | exact sub_keep (sub_skip (fun _ h => h)) | exact sub_keep (sub_skip (sub_skip (fun _ h => h))) | exact sub_keep (sub_skip (sub_skip (sub_skip (fun _ h => h)))) | exact sub_keep (sub_skip (sub_skip (sub_skip (sub_skip (fun _ h => h))))) | exact sub_keep (sub_skip (sub_skip (sub_skip (sub_skip (sub_skip (fun _ h => h)))))) | exact sub_keep (sub_skip (sub_skip (sub_skip (sub_skip (sub_skip (sub_skip (fun _ h => h))))))))
  k_with "mine priv" => (first | assumption | exact PrivAt.mono (by assumption) (by walk_at "mine sub"))
  k_with "mine dict" => (first | assumption | exact DictAt.mono (by assumption) (by walk_at "mine sub"))
  k_with "mine room" => ((try simp only [depth_under_make, depth_under_kw, depth_in1, depth_deeper, depth_caller, units_in1, units_deeper, Around.mark_units, units_caller]); (try dsimp only [ktrTop]); omega)
  k_with "k_all" => assumption
  k_with "k_mem" => (first | exact List.Mem.head _ | ktr_member | (refine' List.mem_cons_of_mem _ ?_; k_mem))
  k_with "mine fresh" => (first | assumption | exact ltm_all (by with_reducible assumption) (by walk_at "mine down") | exact lt_ne (by assumption) | exact allLt_ne (by k_asm) | exact off1_mem (by k_asm) | (rename _ ∧ _ => o9; first | exact off1_mem o9.2 | exact off1_mem o9.2.2 | exact off1_mem o9.2.2.2 | exact allLt_ne o9.2 | exact allLt_ne o9.2.2 | exact allLt_ne o9.2.2.2))
  k_with "mine pull" => (repeat' (first | exact Pull.head | refine' Pull.tail ?_))
  k_with "mine in" => (first | exact List.Mem.head _ | (refine' List.Mem.tail _ ?_; walk_at "mine in"))
  k_with "mine rows" => (first | exact RowsIn.nil | (refine' RowsIn.cons ⟨_, _, ?zqm⟩ ?_; (case zqm => walk_at "mine in"); walk_at "mine rows"))
  k_with "mine off" => (first | assumption | (refine List.forall_mem_cons.mpr ⟨by k_ne, ?_⟩; walk_at "mine off"))
  k_with "mine fam" => (refine' ⟨_, _, _, _, _, _, _, ?zqm1, ?zqm2, ?zqm3, ⟨_, _, ?zqm4, ?zqm5⟩, _, _, ?zqm6, ?zqm7⟩; (case zqm1 => walk_at "mine in"); (case zqm2 => walk_at "mine in"); (case zqm3 => walk_at "mine in"); (case zqm4 => walk_at "mine in"); (case zqm5 => walk_at "mine rows"); (case zqm6 => walk_at "mine in"); (case zqm7 => walk_at "mine rows"))
  k_with "mine enterC" => (refine' code_defC ?zqk1 ?zqk2 ?zqk3 ?zqk4 ?zqk5 ?zqkA ?zqkF ?zqkK ?zqk6 ?zqk7 ?zqk8 ?zqk9 ?zqkB ?zqkD ?_ ?zqc2 ?zqc3 ?zqc4; (case zqkA => exact rfl); (case zqkF => exact rfl); (case zqkK => assumption); (case zqk1 => k_asm); (case zqk2 => k_asm); (case zqk3 => k_asm); (case zqk4 => k_asm); (case zqk5 => k_asm); (case zqk6 => k_is); (case zqk7 => k_is); (case zqk8 => ktr_room); (case zqk9 => exact BindsTo.of_eq rfl); (case zqkB => exact rfl); (case zqkD => decide +kernel); (case zqc2 => exact rfl); (case zqc3 => exact rfl); (case zqc4 => exact rfl); k_whole; intro g' L' h' tk' cells' FG' F' N' Y' B' X' T' l1; (try k_lt l1); k_cells Y'; (try simp only [List.cons_append, List.nil_append] at N'); (try dsimp only); (try k_fold))
  k_with "compareOp In int ref" => (k_here; (with_reducible show wpAny _ _ (compareOp CmpOp.In (Value.int _ _) (Value.ref _)) _ _ _); k_dflt (refine in_list_ints (by exact ⟨_, (News.get (by k_asm) (by k_mem)), rfl, _, rfl⟩) (by assumption) ?_))
  k_with "mine prB" => (first | exact prB_1 (by assumption) | exact prB_2 (by assumption) | exact prB_0 (by assumption) (by assumption))
  k_with "call ref" => (k_here; (with_reducible show wpAny _ _ (call (Value.ref 218) _) _ _ _); k_dflt (refine' c_primary ?zqcx ?zqd ?zqu ?zqfm ?zqz1 ?zqz2 _ _ ?_; (case zqcx => walk_at "mine cx"); (case zqd => walk_at "mine room"); (case zqu => walk_at "mine room"); (case zqfm => exact FamAt.mono (by assumption) (by walk_at "mine sub")); (case zqz1 => assumption); (case zqz2 => assumption)); intro r' h' tk' F' N' hr'; obtain ⟨t', er'⟩ := hr'; subst er'; (try dsimp only))
  k_with "call ref" => (k_here; (with_reducible show wpAny _ _ (call (Value.ref 213) _) _ _ _); k_dflt (refine' c_kind ?zqcx ?zqd ?zqu ?zqfm ?zqz1 ?zqz2 _ _ ?_; (case zqcx => walk_at "mine cx"); (case zqd => walk_at "mine room"); (case zqu => walk_at "mine room"); (case zqfm => exact FamAt.mono (by assumption) (by walk_at "mine sub")); (case zqz1 => assumption); (case zqz2 => assumption)); intro r' h' tk' F' N' hr'; obtain ⟨t', er'⟩ := hr'; subst er'; (try dsimp only))
  trivial
section
variable {w : World} {mean : ExcName → Option Value} {mg mb : Str → Option Value} {dp un : Nat} {gd : Option (List Code)} {cn : Str} {cs : Scope} {a : Addr} {ccd : Value} {cl : List (Str × Addr)} {outer : List Env} {A₀ : Around} {base h₀ : Heap} {L : Addr} {m : Str → Option Value} {s : Shared} {news : List (Addr × Obj)} {Q E : Value → Shared → Prop}
  {P kd pd od md : Addr} {DK : List (Int × Str)} {DP DH DM : List (Int × Int)}
/-- what a port was told -/
inductive Told
  | host (v : Int)
  | heard (v : Int)
  | other
def ToldAt (news : List (Addr × Obj)) (a : Addr) : Told → Prop
  | .host v => ∃ t t', (a, tupO [.str "host" t, .int v t']) ∈ news
  | .heard v => ∃ t t', (a, tupO [.str "heard" t, .int v t']) ∈ news
  | .other => ∃ t, (a, tupO [.str "other" t]) ∈ news
theorem ToldAt.mono {x y : List (Addr × Obj)} {a : Addr} : ∀ {τ : Told}, ToldAt x a τ → (∀ p ∈ x, p ∈ y) → ToldAt y a τ
  | .host _, ⟨t, t', h⟩, k => ⟨t, t', k _ h⟩
  | .heard _, ⟨t, t', h⟩, k => ⟨t, t', k _ h⟩
  | .other, ⟨t, h⟩, k => ⟨t, k _ h⟩
def hearsF (R1 R2 : List (Int × Str)) (v : Int) : Told → Bool
  | .other => true
  | .heard p => p == primF R1 R2 v
  | .host x => if ([100, 200] : List Int).any (· == v) = true then primF R1 R2 x == v else x == v && kindF R1 R2 v == "community"
def outF (R1 R2 : List (Int × Str)) (v : Int) : Told → Int
  | .other => v
  | .heard p => if primF R1 R2 p = primF R1 R2 v then p else v
  | .host p => if primF R1 R2 p = primF R1 R2 v then p else v
theorem hears_1 {R1 R2 : List (Int × Str)} {v x : Int} (h : ([100, 200] : List Int).any (· == v) = true) : Value.bool (primF R1 R2 x == v) = .bool (hearsF R1 R2 v (.host x)) := by unfold hearsF; dsimp only; rw [if_pos h]
theorem hears_2 {R1 R2 : List (Int × Str)} {v x : Int} (h : ([100, 200] : List Int).any (· == v) = false) (e : x = v) : Value.bool (kindF R1 R2 v == Str.ofString "community") = .bool (hearsF R1 R2 v (.host x)) := by unfold hearsF; dsimp only; rw [if_neg (by rw [h]; decide), beq_iff_eq.mpr e, Bool.true_and]
theorem hears_3 {R1 R2 : List (Int × Str)} {v x : Int} (h : ([100, 200] : List Int).any (· == v) = false) (e : x ≠ v) : Value.bool (x == v) = .bool (hearsF R1 R2 v (.host x)) := by unfold hearsF; dsimp only; rw [if_neg (by rw [h]; decide), beq_eq_false_iff_ne.mpr e, Bool.false_and]
theorem c_hears {f td : Addr} {R1 R2 : List (Int × Str)} (cx : Cx w mean mg mb outer A₀ base h₀ L m cs s.heap news) (hd : dp + 3 ≤ 500) (hu : un + 30 ≤ 5000) (fm : FamAt news f R1 R2) (h1 : R1 ∈ R1s) (h2 : R2 ∈ R2s) (z1 : R1.length ≤ 100) (z2 : R2.length ≤ 100) (τ : Told) (ht : ToldAt news td τ) (v : Int) (t : Tok)
    (ret : Ret h₀ L m s Q news (· = .bool (hearsF R1 R2 v τ))) :
    wpAny (model PR w) (ktrTop dp un gd cn cs L a ccd cl outer) (call (.ref 225) [.ref f, .ref td, .int v t]) Q E s := by
  obtain ⟨B, F, X, N, T, hk⟩ := cx
  cases τ with
  | other =>
    obtain ⟨t1, mt⟩ := ht
    refine wpAny_call ?_
    k_dflt ktr_enter
    k_steps
    all_goals exact ret _ _ _ (by k_asm) (newsSub (by k_asm) (by walk_at "mine sub")) (by first | exact hears_1 (by assumption) | exact hears_2 (by assumption) (by assumption) | exact hears_3 (by assumption) (by assumption) | exact rfl)
  | heard p =>
    obtain ⟨t1, t2, mt⟩ := ht
    refine wpAny_call ?_
    k_dflt ktr_enter
    k_steps
    all_goals exact ret _ _ _ (by k_asm) (newsSub (by k_asm) (by walk_at "mine sub")) (by first | exact hears_1 (by assumption) | exact hears_2 (by assumption) (by assumption) | exact hears_3 (by assumption) (by assumption) | exact rfl)
  | host x =>
    obtain ⟨t1, t2, mt⟩ := ht
    refine wpAny_call ?_
    k_dflt ktr_enter
    k_steps
    all_goals exact ret _ _ _ (by k_asm) (newsSub (by k_asm) (by walk_at "mine sub")) (by first | exact hears_1 (by assumption) | exact hears_2 (by assumption) (by assumption) | exact hears_3 (by assumption) (by assumption) | exact rfl)
theorem out_1 {R1 R2 : List (Int × Str)} {v x : Int} {t : Tok} (e : primF R1 R2 x = primF R1 R2 v) : IsI (if primF R1 R2 x = primF R1 R2 v then x else v) (.int x t) := ⟨t, by rw [if_pos e]⟩
theorem out_2 {R1 R2 : List (Int × Str)} {v x : Int} {t : Tok} (e : primF R1 R2 x ≠ primF R1 R2 v) : IsI (if primF R1 R2 x = primF R1 R2 v then x else v) (.int v t) := ⟨t, by rw [if_neg e]⟩
theorem c_out {f td : Addr} {R1 R2 : List (Int × Str)} (cx : Cx w mean mg mb outer A₀ base h₀ L m cs s.heap news) (hd : dp + 3 ≤ 500) (hu : un + 30 ≤ 5000) (fm : FamAt news f R1 R2) (z1 : R1.length ≤ 100) (z2 : R2.length ≤ 100) (τ : Told) (ht : ToldAt news td τ) (v : Int) (t : Tok)
    (ret : Ret h₀ L m s Q news (IsI (outF R1 R2 v τ))) :
    wpAny (model PR w) (ktrTop dp un gd cn cs L a ccd cl outer) (call (.ref 232) [.ref f, .ref td, .int v t]) Q E s := by
  obtain ⟨B, F, X, N, T, hk⟩ := cx
  cases τ with
  | other =>
    obtain ⟨t1, mt⟩ := ht
    refine wpAny_call ?_
    k_dflt ktr_enter
    k_steps
    all_goals exact ret _ _ _ (by k_asm) (newsSub (by k_asm) (by walk_at "mine sub")) ⟨_, rfl⟩
  | heard p =>
    obtain ⟨t1, t2, mt⟩ := ht
    refine wpAny_call ?_
    k_dflt ktr_enter
    k_steps
    all_goals exact ret _ _ _ (by k_asm) (newsSub (by k_asm) (by walk_at "mine sub")) (by first | exact out_1 (by assumption) | exact out_2 (by assumption))
  | host x =>
    obtain ⟨t1, t2, mt⟩ := ht
    refine wpAny_call ?_
    k_dflt ktr_enter
    k_steps
    all_goals exact ret _ _ _ (by k_asm) (newsSub (by k_asm) (by walk_at "mine sub")) (by first | exact out_1 (by assumption) | exact out_2 (by assumption))
end
end Mine
namespace Mine
theorem rowsP23_0 : True := by
  k_with_none
  k_with "mine down" => (first | exact fun _ h => h | (refine dn ?_; walk_at "mine down"))
  k_with "k_ne" => (first | with_reducible assumption | exact Ne.symm (by with_reducible assumption) | exact ltm_ne (by with_reducible assumption) (by k_mem) | exact ltm_en (by with_reducible assumption) (by k_mem) | exact Nat.ne_of_lt (by with_reducible assumption) | exact Nat.ne_of_gt (by with_reducible assumption) | exact ltm_c1 (by with_reducible assumption) (by k_mem) | exact ltm_d1 (by with_reducible assumption) (by k_mem) | exact ltm_c2 (by with_reducible assumption) (by k_mem) | exact ltm_d2 (by with_reducible assumption) (by k_mem) | exact ltm_c3 (by with_reducible assumption) (by k_mem) | exact ltm_d3 (by with_reducible assumption) (by k_mem) | exact ltm_c4 (by with_reducible assumption) (by k_mem) | exact ltm_d4 (by with_reducible assumption) (by k_mem) | exact ltm_c5 (by with_reducible assumption) (by k_mem) | exact ltm_d5 (by with_reducible assumption) (by k_mem) | (refine neN ?_; (try dsimp only); omega))
  k_with "k_all" => (first | exact ltm_all (by with_reducible assumption) (by walk_at "mine down") | exact ltm_a1 (by with_reducible assumption) (by walk_at "mine down") | exact ltm_a2 (by with_reducible assumption) (by walk_at "mine down") | exact ltm_a3 (by with_reducible assumption) (by walk_at "mine down") | exact ltm_a4 (by with_reducible assumption) (by walk_at "mine down") | exact ltm_a5 (by with_reducible assumption) (by walk_at "mine down"))
  trivial
theorem fill23 : (hd.heap_1 = hd.heap_1) ∧ (PySem.Challenge.rw_pb0538_01 = PySem.Challenge.rw_pb0538_01) := by k_fill; exact ⟨rfl, rfl⟩
theorem rowsP23_1 : True := by
  k_with "mine cx" => exact ⟨by k_asm, by k_asm, by k_asm, by k_asm, by k_asm, by first | exact rfl | assumption⟩
  k_with "mine sub" => (first | exact fun _ h => h | exact sub_skip (fun _ h => h) | exact sub_skip (sub_skip (fun _ h => h)) | exact sub_skip (sub_skip (sub_skip (fun _ h => h))) | exact sub_skip (sub_skip (sub_skip (sub_skip (fun _ h => h)))) | exact sub_skip (sub_skip (sub_skip (sub_skip (sub_skip (fun _ h => h))))) | exact sub_skip (sub_skip (sub_skip (sub_skip (sub_skip (sub_skip (fun _ h => h)))))) | exact sub_keep (sub_skip (fun _ h => h)) | exact sub_keep (sub_skip (sub_skip (fun _ h => h))) | exact sub_keep (sub_skip (sub_skip (sub_skip (fun _ h => h)))) | exact sub_keep (sub_skip (sub_skip (sub_skip (sub_skip (fun _ h => h))))) | exact sub_keep (sub_skip (sub_skip (sub_skip (sub_skip (sub_skip (fun _ h => h)))))) | exact sub_keep (sub_skip (sub_skip (sub_skip (sub_skip (sub_skip (sub_skip (fun _ h => h))))))))
  k_with "mine priv" => (first | assumption | exact PrivAt.mono (by assumption) (by walk_at "mine sub"))
  k_with "mine dict" => (first | assumption | exact DictAt.mono (by assumption) (by walk_at "mine sub"))
  k_with "mine room" => ((try simp only [depth_under_make, depth_under_kw, depth_in1, depth_deeper, depth_caller, units_in1, units_deeper, Around.mark_units, units_caller]); (try dsimp only [ktrTop]); omega)
  k_with "k_all" => assumption
  k_with "k_mem" => (first | exact List.Mem.head _ | ktr_member | (refine' List.mem_cons_of_mem _ ?_; k_mem))
  k_with "mine fresh" => (first | assumption | exact ltm_all (by with_reducible assumption) (by walk_at "mine down") | exact lt_ne (by assumption) | exact allLt_ne (by k_asm) | exact off1_mem (by k_asm) | (rename _ ∧ _ => o9; first | exact off1_mem o9.2 | exact off1_mem o9.2.2 | exact off1_mem o9.2.2.2 | exact allLt_ne o9.2 | exact allLt_ne o9.2.2 | exact allLt_ne o9.2.2.2))
  k_with "mine pull" => (repeat' (first | exact Pull.head | refine' Pull.tail ?_))
  k_with "mine in" => (first | exact List.Mem.head _ | (refine' List.Mem.tail _ ?_; walk_at "mine in"))
  k_with "mine rows" => (first | exact RowsIn.nil | (refine' RowsIn.cons ⟨_, _, ?zqm⟩ ?_; (case zqm => walk_at "mine in"); walk_at "mine rows"))
  k_with "mine off" => (first | assumption | (refine List.forall_mem_cons.mpr ⟨by k_ne, ?_⟩; walk_at "mine off"))
  k_with "mine fam" => (refine' ⟨_, _, _, _, _, _, _, ?zqm1, ?zqm2, ?zqm3, ⟨_, _, ?zqm4, ?zqm5⟩, _, _, ?zqm6, ?zqm7⟩; (case zqm1 => walk_at "mine in"); (case zqm2 => walk_at "mine in"); (case zqm3 => walk_at "mine in"); (case zqm4 => walk_at "mine in"); (case zqm5 => walk_at "mine rows"); (case zqm6 => walk_at "mine in"); (case zqm7 => walk_at "mine rows"))
  k_with "mine enterC" => (refine' code_defC ?zqk1 ?zqk2 ?zqk3 ?zqk4 ?zqk5 ?zqkA ?zqkF ?zqkK ?zqk6 ?zqk7 ?zqk8 ?zqk9 ?zqkB ?zqkD ?_ ?zqc2 ?zqc3 ?zqc4; (case zqkA => exact rfl); (case zqkF => exact rfl); (case zqkK => assumption); (case zqk1 => k_asm); (case zqk2 => k_asm); (case zqk3 => k_asm); (case zqk4 => k_asm); (case zqk5 => k_asm); (case zqk6 => k_is); (case zqk7 => k_is); (case zqk8 => ktr_room); (case zqk9 => exact BindsTo.of_eq rfl); (case zqkB => exact rfl); (case zqkD => decide +kernel); (case zqc2 => exact rfl); (case zqc3 => exact rfl); (case zqc4 => exact rfl); k_whole; intro g' L' h' tk' cells' FG' F' N' Y' B' X' T' l1; (try k_lt l1); k_cells Y'; (try simp only [List.cons_append, List.nil_append] at N'); (try dsimp only); (try k_fold))
  k_with "compareOp In int ref" => (k_here; (with_reducible show wpAny _ _ (compareOp CmpOp.In (Value.int _ _) (Value.ref _)) _ _ _); k_dflt (refine in_list_ints (by exact ⟨_, (News.get (by k_asm) (by k_mem)), rfl, _, rfl⟩) (by assumption) ?_))
  k_with "mine prB" => (first | exact prB_1 (by assumption) | exact prB_2 (by assumption) | exact prB_0 (by assumption) (by assumption))
  k_with "call ref" => (k_here; (with_reducible show wpAny _ _ (call (Value.ref 218) _) _ _ _); k_dflt (refine' c_primary ?zqcx ?zqd ?zqu ?zqfm ?zqz1 ?zqz2 _ _ ?_; (case zqcx => walk_at "mine cx"); (case zqd => walk_at "mine room"); (case zqu => walk_at "mine room"); (case zqfm => exact FamAt.mono (by assumption) (by walk_at "mine sub")); (case zqz1 => assumption); (case zqz2 => assumption)); intro r' h' tk' F' N' hr'; obtain ⟨t', er'⟩ := hr'; subst er'; (try dsimp only))
  k_with "call ref" => (k_here; (with_reducible show wpAny _ _ (call (Value.ref 213) _) _ _ _); k_dflt (refine' c_kind ?zqcx ?zqd ?zqu ?zqfm ?zqz1 ?zqz2 _ _ ?_; (case zqcx => walk_at "mine cx"); (case zqd => walk_at "mine room"); (case zqu => walk_at "mine room"); (case zqfm => exact FamAt.mono (by assumption) (by walk_at "mine sub")); (case zqz1 => assumption); (case zqz2 => assumption)); intro r' h' tk' F' N' hr'; obtain ⟨t', er'⟩ := hr'; subst er'; (try dsimp only))
  trivial
section
variable {prog : Program} {w : World} {A : Around} {E : Value → Shared → Prop} {s : Shared} {env : Env} {h₀ : Heap} {target : Expr} {body : List Stmt} {Q : Flow → Shared → Prop}
/-- a loop over numbers (a dict's keys, a range): the ledger is the same after each turn, the names `stored` are anything -/
theorem items_tok {I : Addr} {cls : String} {keep news₀ : List (Addr × Obj)} (stored : List Str) (m₀ : Str → Option Value) (hk : SubL keep news₀) : ∀ (ks : List Int),
    (∀ k ∈ ks, ∀ (u : Str → Option Value) t h tk o, o.cls = .type cls → Fr h₀ env.locals h (fun z => if stored.contains z = true then u z else m₀ z) → News h₀ env.locals h ((I, o) :: news₀) →
      wpAny (model prog w) A (assign target env (.int k t)) (fun _ s₂ => wpAny (model prog w) A (execs body env) (UnrPostW h₀ env.locals { s with heap := h, toks := tk } [(I, o)] (fun m' n' => n' = news₀ ∧ ∀ z, stored.contains z = false → m' z = m₀ z) Q) E s₂) E { s with heap := h, toks := tk }) →
    (∀ (u : Str → Option Value) h tk, Fr h₀ env.locals h (fun z => if stored.contains z = true then u z else m₀ z) → News h₀ env.locals h news₀ → Q .next { s with heap := h, toks := tk }) →
    ∀ m, (∀ z, stored.contains z = false → m z = m₀ z) → ItemsRest prog w A E h₀ env target body Q s [(I, cls)] keep (ks.map fun k => Itm.tok (kyVal (.int k))) m news₀
  | [], _, done, m, hm => ItemsRest.zero fun h tk F N => done m h tk (overlay_of hm ▸ F) N
  | k :: ks, step, done, m, hm => by
    refine ItemsRest.tok fun t h tk F => AllObj.cons fun o ho => AllObj.nil fun N => ?_
    refine wpAny_mono (step k (.head _) m t h tk o ho (overlay_of hm ▸ F) N) (fun _ s₂ q => wpAny_mono q (fun f s₃ q' => ?_) fun _ _ e => e) fun _ _ e => e
    have fin : UnrEndW h₀ env.locals { s with heap := h, toks := tk } [(I, o)] (fun m' n' => n' = news₀ ∧ ∀ z, stored.contains z = false → m' z = m₀ z) s₃ →
        UnrEndW h₀ env.locals { s with heap := h, toks := tk } [(I, o)] (fun m' n' => SubL keep n' ∧ ItemsRest prog w A E h₀ env target body Q s [(I, cls)] keep (ks.map fun k => Itm.tok (kyVal (.int k))) m' n') s₃ := by
      rintro ⟨h', tk', m', n', e, F', N', off, rfl, hm'⟩
      exact ⟨h', tk', m', n', e, F', N', off, hk, items_tok stored m₀ hk ks (fun k hk => step k (.tail _ hk)) done m' hm'⟩
    cases f with
    | ret v => exact q'
    | brk => exact q'
    | next => exact fin q'
    | cont => exact fin q'
end
section
variable {w : World} {mean : ExcName → Option Value} {mg mb : Str → Option Value} {dp un : Nat} {gd : Option (List Code)} {cn : Str} {cs : Scope} {a : Addr} {ccd : Value} {cl : List (Str × Addr)} {outer : List Env} {A₀ : Around} {base h₀ : Heap} {L : Addr} {m : Str → Option Value} {s : Shared} {news : List (Addr × Obj)} {Q E : Value → Shared → Prop}
  {P kd pd od md : Addr} {DK : List (Int × Str)} {DP DH DM : List (Int × Int)}
/-- the ports and what each was told, in a dict -/
inductive PortsIn (news : List (Addr × Obj)) : List (Int × Value) → List (Int × Told) → Prop
  | nil : PortsIn news [] []
  | cons {k a τ kvs PT} : ToldAt news a τ → PortsIn news kvs PT → PortsIn news ((k, .ref a) :: kvs) ((k, τ) :: PT)
theorem PortsIn.mono {x y : List (Addr × Obj)} (k : ∀ p ∈ x, p ∈ y) {kvs : List (Int × Value)} {PT : List (Int × Told)} (h : PortsIn x kvs PT) : PortsIn y kvs PT := by
  induction h with
  | nil => exact .nil
  | cons t _ ih => exact .cons (t.mono k) ih
theorem PortsIn.keys {x : List (Addr × Obj)} {kvs : List (Int × Value)} {PT : List (Int × Told)} (h : PortsIn x kvs PT) : kvs.map Prod.fst = PT.map Prod.fst := by
  induction h with
  | nil => rfl
  | cons t _ ih => simp only [List.map_cons, ih]
theorem PortsIn.at {x : List (Addr × Obj)} {kvs : List (Int × Value)} {PT : List (Int × Told)} (h : PortsIn x kvs PT) (nd : (PT.map Prod.fst).Nodup) : ∀ {k : Int}, k ∈ kvs.map Prod.fst → ∃ a τ, valueAt kvs k = some (.ref a) ∧ (k, τ) ∈ PT ∧ ToldAt x a τ := by
  induction h with
  | nil => intro k hk; cases hk
  | @cons k' a τ kvs PT t r ih =>
    intro k hk
    rw [List.map_cons, List.nodup_cons] at nd
    rw [List.map_cons] at hk
    by_cases e : k' = k
    · subst e
      exact ⟨a, τ, by simp [valueAt], .head _, t⟩
    · rcases List.mem_cons.mp hk with rfl | hk
      · exact absurd rfl e
      · obtain ⟨a', τ', h1, h2, h3⟩ := ih nd.2 hk
        refine ⟨a', τ', ?_, .tail _ h2, h3⟩
        simp only [valueAt, List.find?_cons, decide_eq_false e] at h1 ⊢
        exact h1
def PortsAt (w : World) (news : List (Addr × Obj)) (tb : Addr) (PT : List (Int × Told)) : Prop :=
  ∃ o kvs, (tb, o) ∈ news ∧ (tb == sysModules) = false ∧ o.IsDictOf (intKind PR w) kvs ∧ PortsIn news kvs PT
theorem PortsAt.mono {x y : List (Addr × Obj)} {tb : Addr} {PT : List (Int × Told)} (h : PortsAt w x tb PT) (k : ∀ p ∈ x, p ∈ y) : PortsAt w y tb PT :=
  let ⟨o, kvs, a, b, c, d⟩ := h; ⟨o, kvs, k _ a, b, c, d.mono k⟩
theorem c_own_is (cx : Cx w mean mg mb outer A₀ base h₀ L m cs s.heap news) (hd : dp + 1 ≤ 500) (hu : un + 10 ≤ 5000)
    (hp : PrivAt news P kd pd od md) (hH : DictAt w news od (II DH)) (hM : DictAt w news md (II DM)) (p v : Int) (t t' : Tok) {x : Int} (e : (match DH.lookup p with | some x => x | none => (DM.lookup p).getD v) = x)
    (ret : Ret h₀ L m s Q news (IsI x)) :
    wpAny (model PR w) (ktrTop dp un gd cn cs L a ccd cl outer) (call (.ref 145) [.ref P, .int p t, .int v t']) Q E s := by subst e; exact c_own_vlan cx hd hu hp hH hM p v t t' ret
theorem c_lets_is (cx : Cx w mean mg mb outer A₀ base h₀ L m cs s.heap news) (hd : dp + 2 ≤ 500) (hu : un + 20 ≤ 5000)
    (hp : PrivAt news P kd pd od md) (hK : DictAt w news kd (IS DK)) (hP : DictAt w news pd (II DP)) (hH : DictAt w news od (II DH)) (hM : DictAt w news md (II DM)) (p v : Int) (t t' : Tok)
    (own : ∀ x, DH.lookup p = some x → ∃ y, DP.lookup x = some y) {b : Bool} (e : letsV DK DP DH DM p v = b)
    (ret : Ret h₀ L m s Q news (· = .bool b)) :
    wpAny (model PR w) (ktrTop dp un gd cn cs L a ccd cl outer) (call (.ref 159) [.ref P, .int p t, .int v t']) Q E s := by subst e; exact c_lets cx hd hu hp hK hP hH hM p v t t' own ret
theorem c_out_is (cx : Cx w mean mg mb outer A₀ base h₀ L m cs s.heap news) (hd : dp + 2 ≤ 500) (hu : un + 20 ≤ 5000)
    (hp : PrivAt news P kd pd od md) (hP : DictAt w news pd (II DP)) (hH : DictAt w news od (II DH)) (hM : DictAt w news md (II DM)) (p v : Int) (t t' : Tok) {x : Int} (e : outV DP DH DM p v = x)
    (ret : Ret h₀ L m s Q news (IsI x)) :
    wpAny (model PR w) (ktrTop dp un gd cn cs L a ccd cl outer) (call (.ref 152) [.ref P, .int p t, .int v t']) Q E s := by subst e; exact c_out_vlan cx hd hu hp hP hH hM p v t t' ret
def toldV (v : Int) : Told → Int
  | .host x => x
  | .heard x => x
  | .other => v
theorem rowsP23_2 : True := by
  k_with "call ref" => (k_here; (with_reducible show wpAny _ _ (call (Value.ref 225) _) _ _ _); k_dflt (refine' c_hears ?zqcx ?zqd ?zqu ?zqfm ?zqh1 ?zqh2 ?zqz1 ?zqz2 _ ?zqht _ _ ?_; (case zqcx => walk_at "mine cx"); (case zqd => walk_at "mine room"); (case zqu => walk_at "mine room"); (case zqfm => exact FamAt.mono (by assumption) (by walk_at "mine sub")); (case zqht => exact ToldAt.mono (by assumption) (by walk_at "mine sub")); (case zqh1 => assumption); (case zqh2 => assumption); (case zqz1 => assumption); (case zqz2 => assumption)); intro r' h' tk' F' N' hr'; subst hr'; (try dsimp only))
  k_with "call ref" => (k_here; (with_reducible show wpAny _ _ (call (Value.ref 232) _) _ _ _); k_dflt (refine' c_out ?zqcx ?zqd ?zqu ?zqfm ?zqz1 ?zqz2 _ ?zqht _ _ ?_; (case zqcx => walk_at "mine cx"); (case zqd => walk_at "mine room"); (case zqu => walk_at "mine room"); (case zqfm => exact FamAt.mono (by assumption) (by walk_at "mine sub")); (case zqht => exact ToldAt.mono (by assumption) (by walk_at "mine sub")); (case zqz1 => assumption); (case zqz2 => assumption)); intro r' h' tk' F' N' hr'; obtain ⟨t', er'⟩ := hr'; subst er'; (try dsimp only))
  k_with "call ref" => (k_here; (with_reducible show wpAny _ _ (call (Value.ref 145) _) _ _ _); k_dflt (refine' c_own_is ?zqcx ?zqd ?zqu ?zqp ?zqH ?zqM _ _ _ _ ?zqe ?_; (case zqcx => walk_at "mine cx"); (case zqd => walk_at "mine room"); (case zqu => walk_at "mine room"); (case zqp => walk_at "mine priv"); (case zqH => walk_at "mine dict"); (case zqM => walk_at "mine dict"); (case zqe => assumption)); intro r' h' tk' F' N' hr'; obtain ⟨t', er'⟩ := hr'; subst er'; (try dsimp only))
  k_with "call ref" => (k_here; (with_reducible show wpAny _ _ (call (Value.ref 152) _) _ _ _); k_dflt (refine' c_out_is ?zqcx ?zqd ?zqu ?zqp ?zqP ?zqH ?zqM _ _ _ _ ?zqe ?_; (case zqcx => walk_at "mine cx"); (case zqd => walk_at "mine room"); (case zqu => walk_at "mine room"); (case zqp => walk_at "mine priv"); (case zqP => walk_at "mine dict"); (case zqH => walk_at "mine dict"); (case zqM => walk_at "mine dict"); (case zqe => assumption)); intro r' h' tk' F' N' hr'; obtain ⟨t', er'⟩ := hr'; subst er'; (try dsimp only))
  k_with "call ref" => (k_here; (with_reducible show wpAny _ _ (call (Value.ref 159) _) _ _ _); k_dflt (refine' c_lets_is ?zqcx ?zqd ?zqu ?zqp ?zqK ?zqP ?zqH ?zqM _ _ _ _ ?zqo ?zqe ?_; (case zqcx => walk_at "mine cx"); (case zqd => walk_at "mine room"); (case zqu => walk_at "mine room"); (case zqp => walk_at "mine priv"); (case zqK => walk_at "mine dict"); (case zqP => walk_at "mine dict"); (case zqH => walk_at "mine dict"); (case zqM => walk_at "mine dict"); (case zqo => assumption); (case zqe => assumption)); intro r' h' tk' F' N' hr'; subst hr'; (try dsimp only))
  k_with "exec For Name Name cons nil" => (k_here; (rename Fr _ _ _ _ => lF'); (with_unfolding_all refine' For_turns lF' ?_; k_whole))
  k_with "subscriptTail" => (k_here; k_dflt (refine kda_item (knd := PySem.intKind _ _) (by k_asm) (by k_mem) (by assumption) (intKind_is _ _ _ _) (by with_reducible assumption) ?_))
  trivial
theorem bne_absurd {b : Bool} (h : (b != b) = true) : False := by cases b <;> exact absurd h (by decide)
theorem rowsP23_3 : True := by
  k_with "mine stored" => (intro z9 hz9; (try dsimp only); (repeat' split) <;> first | rfl | exact absurd hz9 (by subst_vars; decide) | exact absurd hz9 (by rename _ = true => e9; rw [e9]; decide))
  k_with "mine turn" => (first
    | exact absurd rfl (by assumption)
    | exact (bne_absurd (by assumption)).elim
    | exact unrEnd (by k_asm) (newsSub (by k_asm) (by walk_at "mine sub")) (off_one (by assumption)) ⟨rfl, by walk_at "mine stored"⟩)
  trivial
theorem c_ports_right {f tb : Addr} {R1 R2 : List (Int × Str)} {PT : List (Int × Told)} (cx : Cx w mean mg mb outer A₀ base h₀ L m cs s.heap news) (hd : dp + 4 ≤ 500) (hu : un + 40 ≤ 5000) (fm : FamAt news f R1 R2) (h1 : R1 ∈ R1s) (h2 : R2 ∈ R2s) (z1 : R1.length ≤ 100) (z2 : R2.length ≤ 100)
    (hp : PrivAt news P kd pd od md) (hK : DictAt w news kd (IS DK)) (hP : DictAt w news pd (II DP)) (hH : DictAt w news od (II DH)) (hM : DictAt w news md (II DM)) (hT : PortsAt w news tb PT) (nd : (PT.map Prod.fst).Nodup) (v : Int) (t : Tok)
    (ok1 : ∀ k τ, (k, τ) ∈ PT → (match DH.lookup k with | some x => x | none => (DM.lookup k).getD v) = toldV v τ)
    (ok2 : ∀ k τ, (k, τ) ∈ PT → letsV DK DP DH DM k v = hearsF R1 R2 v τ)
    (ok3 : ∀ k τ, (k, τ) ∈ PT → outV DP DH DM k v = outF R1 R2 v τ)
    (ok4 : ∀ k x, DH.lookup k = some x → ∃ y, DP.lookup x = some y)
    (ret : Ret h₀ L m s Q news (· = .bool true)) :
    wpAny (model PR w) (ktrTop dp un gd cn cs L a ccd cl outer) (call (.ref 239) [.ref P, .ref tb, .ref f, .int v t]) Q E s := by
  obtain ⟨B, F, X, N, T, hk⟩ := cx
  obtain ⟨oT, kvs, mT, loT, dT, hPT⟩ := hT
  have hp0 := hp
  obtain ⟨dx, i1, i2, i3, i4, j1, j2, j3, j4, n, mP, mD⟩ := hp
  refine wpAny_call ?_
  k_dflt ktr_enter
  iterate 4 (k_dflt walk1)
  (refine kta_keys (knd := intKind PR _) (enc := PyData.int) (by rfl) (by k_asm) (by k_asm) (by k_mem) (by assumption) (by assumption) (fun k v h => ?_) rfl ?_)
  · obtain ⟨t', rfl⟩ := Value.isInt_shape h
    exact ⟨t', rfl⟩
  · intro I l1
    try k_lt l1
    have e0 : (kvs.map fun p => Itm.tok (kyVal (.int p.1))) = (kvs.map Prod.fst).map fun k => Itm.tok (kyVal (.int k)) := by rw [List.map_map]; rfl
    rw [e0]
    refine items_tok ["port", "told"] _ (subL_of mT) _ ?_ ?_ _ (fun _ _ => rfl)
    · intro k hk u t' h' tk' o' ho' F' N'
      obtain ⟨a', τ, hv, hm, ht⟩ := hPT.at nd hk
      have e1 := ok1 _ _ hm
      have e2 := ok2 _ _ hm
      have e3 := ok3 _ _ hm
      have e4 := ok4 k
      have ht0 := ht
      cases τ with
      | other =>
        obtain ⟨s1, ht⟩ := ht
        k_steps
        all_goals walk_at "mine turn"
      | heard x =>
        obtain ⟨s1, s2, ht⟩ := ht
        k_steps
        all_goals walk_at "mine turn"
      | host x =>
        obtain ⟨s1, s2, ht⟩ := ht
        k_steps
        all_goals walk_at "mine turn"
    · intro u h' tk' F' N'
      k_steps
      exact ret _ _ _ (by k_asm) (newsSub (by k_asm) (by walk_at "mine sub")) rfl
end
end Mine
namespace Mine
theorem rowsP24_0 : True := by
  k_with_none
  k_with "mine down" => (first | exact fun _ h => h | (refine dn ?_; walk_at "mine down"))
  k_with "k_ne" => (first | with_reducible assumption | exact Ne.symm (by with_reducible assumption) | exact ltm_ne (by with_reducible assumption) (by k_mem) | exact ltm_en (by with_reducible assumption) (by k_mem) | exact Nat.ne_of_lt (by with_reducible assumption) | exact Nat.ne_of_gt (by with_reducible assumption) | exact ltm_c1 (by with_reducible assumption) (by k_mem) | exact ltm_d1 (by with_reducible assumption) (by k_mem) | exact ltm_c2 (by with_reducible assumption) (by k_mem) | exact ltm_d2 (by with_reducible assumption) (by k_mem) | exact ltm_c3 (by with_reducible assumption) (by k_mem) | exact ltm_d3 (by with_reducible assumption) (by k_mem) | exact ltm_c4 (by with_reducible assumption) (by k_mem) | exact ltm_d4 (by with_reducible assumption) (by k_mem) | exact ltm_c5 (by with_reducible assumption) (by k_mem) | exact ltm_d5 (by with_reducible assumption) (by k_mem) | (refine neN ?_; (try dsimp only); omega))
  k_with "k_all" => (first | exact ltm_all (by with_reducible assumption) (by walk_at "mine down") | exact ltm_a1 (by with_reducible assumption) (by walk_at "mine down") | exact ltm_a2 (by with_reducible assumption) (by walk_at "mine down") | exact ltm_a3 (by with_reducible assumption) (by walk_at "mine down") | exact ltm_a4 (by with_reducible assumption) (by walk_at "mine down") | exact ltm_a5 (by with_reducible assumption) (by walk_at "mine down"))
  trivial
open PyProof.Rows.LCg
section
variable {prog : Program} {w : World} {A : Around} {E : Value → Shared → Prop} {s : Shared} {R : Result → Shared → Prop} {h₀ : Heap} {L : Addr} {m : Str → Option Value} {env : Env}
variable {I ax C D : Addr} {j : Nat} {mc : Str → Option Value} {ys : List Value} {news : List (Addr × Obj)}
/-- the tests of a clause over a comprehension's state -/
def TestsOk (prog : Program) (w : World) (A : Around) (h₀ : Heap) (L : Addr) (m : Str → Option Value) (env : Env) (scope : Scope) (cl : List (Str × Addr)) (x x₂ : Str) (ifs : List Expr) (s : Shared) (news : List (Addr × Obj)) (v r : Value) (B : Bool) : Prop :=
  ∀ I ax j C D ys mc h tk E', mc x = some v → mc x₂ = some r → CW h₀ L m I ax j C mc D ys news h →
    wpAny (model prog w) A (testsOf ifs (compEnvC scope cl C env)) (fun ok s₄ => ok = B ∧ ∃ h tk', s₄ = { s with heap := h, toks := tk' } ∧ CW h₀ L m I ax j C mc D ys news h) E' { s with heap := h, toks := tk }
theorem TestAt.ok {scope : Scope} {cl : List (Str × Addr)} {x x₂ : Str} {ct : Expr} {v r : Value} {B : Bool} (T : TestAt prog w A h₀ L m env scope cl x x₂ ct s news v r B) : TestsOk prog w A h₀ L m env scope cl x x₂ [ct] s news v r B :=
  fun I ax j C D ys mc h tk E' e1 e2 c => T.cw c e1 e2 fun h' tk' c' => ⟨rfl, h', tk', rfl, c'⟩
theorem TestsOk.nil {scope : Scope} {cl : List (Str × Addr)} {x x₂ : Str} {v r : Value} : TestsOk prog w A h₀ L m env scope cl x x₂ [] s news v r true :=
  fun I ax j C D ys mc h tk E' e1 e2 c => wpAny_tests_nil ⟨rfl, h, tk, rfl, c⟩
/-- [y for (x, x₂) in families if test for (y, y₂) in x₂] -/
theorem fam_rows {iter : Expr} {ifs : List Expr} {x x₂ y y₂ : Str} {px px₂ tp py py₂ tp₂ pe p2 : Pos} {tk0 tk1} {scope : Scope} {cl : List (Str × Addr)} {pos : Pos} {K : Shared → Addr → List Value → List (Addr × Obj) → Prop} {f a1 a2 r1 r2 : Addr} {n : Nat} {v₁ v₂ : Value} {R1 R2 : List (Int × Str)} {B1 B2 : Bool}
    (hh : A.handled = none) (hkind : scope.kind = .function) (hx : scope.names.lookup x = some .local) (hx₂ : scope.names.lookup x₂ = some .local) (hy : scope.names.lookup y = some .local) (hy₂ : scope.names.lookup y₂ = some .local) (hxx : x ≠ x₂) (hyy : y ≠ y₂)
    (hd : (y == ("__debug__" : Str)) = false) (hd₂ : (x₂ == ("__debug__" : Str)) = false)
    (F : Fr h₀ L s.heap m) (N : News h₀ L s.heap news) (hf : (f, listOf #[.ref a1, .ref a2] n) ∈ news) (h1 : (a1, tupO [v₁, .ref r1]) ∈ news) (h2 : (a2, tupO [v₂, .ref r2]) ∈ news) (q1 : RowsAt news r1 R1) (q2 : RowsAt news r2 R2) (z1 : R1.length ≤ 10) (z2 : R2.length ≤ 10)
    (T1 : TestsOk prog w A h₀ L m env scope cl x x₂ ifs s news v₁ (.ref r1) B1) (T2 : TestsOk prog w A h₀ L m env scope cl x x₂ ifs s news v₂ (.ref r2) B2)
    (hK : ∀ D ys, IntsAre ys ((if B1 = true then R1.map Prod.fst else []) ++ (if B2 = true then R2.map Prod.fst else [])) → (∀ p ∈ news, @Ne Nat p.1 D) → K s D ys news) :
    CSrc prog w A h₀ L m env (.Name y pe) (.Tuple [.Name x px, .Name x₂ px₂] tk0 tp) iter ifs [⟨.Tuple [.Name y py, .Name y₂ py₂] tk1 tp₂, .Name x₂ p2, [], 0⟩] scope cl pos K (.ref f) s := by
  have S : SrcAt h₀ f #[.ref a1, .ref a2] news := .inr ⟨_, hf, rfl, _, rfl⟩
  have hkd : ∀ C, (compEnvC scope cl C env).scope.kind = .function := fun C => by simp [compEnvC, relabel, hkind]
  refine ⟨f, #[.ref a1, .ref a2], news, fun ys => IntsAre ys ((if B1 = true then R1.map Prod.fst else []) ++ (if B2 = true then R2.map Prod.fst else [])), rfl, F, N, S, fun I C D mc h tk c => ?_, hK⟩
  refine rows_turn (env := compEnvC scope cl C env) (s := { s with heap := h, toks := tk }) hh rfl (lookup_relabel_local hx) (lookup_relabel_local hx₂) (lookup_relabel_local hy) (lookup_relabel_local hy₂) (hkd C) hxx hyy hd hd₂ c S rfl h1 q1 (by show 0 + _ ≤ _; omega) (fun h' tk mc' E' e1 e2 c' => T1 I f 1 C D _ mc' h' tk E' e1 e2 c') fun h' tk' mc' zs hz c' => ?_
  have hl : zs.length ≤ 10 := by rw [hz.length]; split <;> simp <;> omega
  refine rows_turn (env := compEnvC scope cl C env) (s := { s with heap := h', toks := tk' }) hh rfl (lookup_relabel_local hx) (lookup_relabel_local hx₂) (lookup_relabel_local hy) (lookup_relabel_local hy₂) (hkd C) hxx hyy hd hd₂ c' S rfl h2 q2 (by rw [List.nil_append]; omega) (fun h' tk mc' E' e1 e2 c' => T2 I f 2 C D _ mc' h' tk E' e1 e2 c') fun h'' tk'' mc'' zs' hz' c'' => ?_
  exact two_end hh (fun _ => rfl) c'' S rfl (by rw [List.nil_append]; exact intsAre_append hz hz')
end
end Mine
namespace Mine
theorem rowsP25_0 : True := by
  k_with_none
  k_with "mine down" => (first | exact fun _ h => h | (refine dn ?_; walk_at "mine down"))
  k_with "k_ne" => (first | with_reducible assumption | exact Ne.symm (by with_reducible assumption) | exact ltm_ne (by with_reducible assumption) (by k_mem) | exact ltm_en (by with_reducible assumption) (by k_mem) | exact Nat.ne_of_lt (by with_reducible assumption) | exact Nat.ne_of_gt (by with_reducible assumption) | exact ltm_c1 (by with_reducible assumption) (by k_mem) | exact ltm_d1 (by with_reducible assumption) (by k_mem) | exact ltm_c2 (by with_reducible assumption) (by k_mem) | exact ltm_d2 (by with_reducible assumption) (by k_mem) | exact ltm_c3 (by with_reducible assumption) (by k_mem) | exact ltm_d3 (by with_reducible assumption) (by k_mem) | exact ltm_c4 (by with_reducible assumption) (by k_mem) | exact ltm_d4 (by with_reducible assumption) (by k_mem) | exact ltm_c5 (by with_reducible assumption) (by k_mem) | exact ltm_d5 (by with_reducible assumption) (by k_mem) | (refine neN ?_; (try dsimp only); omega))
  k_with "k_all" => (first | exact ltm_all (by with_reducible assumption) (by walk_at "mine down") | exact ltm_a1 (by with_reducible assumption) (by walk_at "mine down") | exact ltm_a2 (by with_reducible assumption) (by walk_at "mine down") | exact ltm_a3 (by with_reducible assumption) (by walk_at "mine down") | exact ltm_a4 (by with_reducible assumption) (by walk_at "mine down") | exact ltm_a5 (by with_reducible assumption) (by walk_at "mine down"))
  trivial
theorem fill25 : (hd.heap_1 = hd.heap_1) ∧ (PySem.Challenge.rw_pb0538_01 = PySem.Challenge.rw_pb0538_01) := by k_fill; exact ⟨rfl, rfl⟩
theorem rowsP25_1 : True := by
  k_with "mine cx" => exact ⟨by k_asm, by k_asm, by k_asm, by k_asm, by k_asm, by first | exact rfl | assumption⟩
  k_with "mine sub" => (first | exact fun _ h => h | exact sub_skip (fun _ h => h) | exact sub_skip (sub_skip (fun _ h => h)) | exact sub_skip (sub_skip (sub_skip (fun _ h => h))) | exact sub_skip (sub_skip (sub_skip (sub_skip (fun _ h => h)))) | exact sub_skip (sub_skip (sub_skip (sub_skip (sub_skip (fun _ h => h))))) | exact sub_skip (sub_skip (sub_skip (sub_skip (sub_skip (sub_skip (fun _ h => h)))))) | exact sub_keep (sub_skip (fun _ h => h)) | exact sub_keep (sub_skip (sub_skip (fun _ h => h))) | exact sub_keep (sub_skip (sub_skip (sub_skip (fun _ h => h)))) | exact sub_keep (sub_skip (sub_skip (sub_skip (sub_skip (fun _ h => h))))) | exact sub_keep (sub_skip (sub_skip (sub_skip (sub_skip (sub_skip (fun _ h => h)))))) | exact sub_keep (sub_skip (sub_skip (sub_skip (sub_skip (sub_skip (sub_skip (fun _ h => h))))))))
  k_with "mine priv" => (first | assumption | exact PrivAt.mono (by assumption) (by walk_at "mine sub"))
  k_with "mine dict" => (first | assumption | exact DictAt.mono (by assumption) (by walk_at "mine sub"))
  k_with "mine room" => ((try simp only [depth_under_make, depth_under_kw, depth_in1, depth_deeper, depth_caller, units_in1, units_deeper, Around.mark_units, units_caller]); (try dsimp only [ktrTop]); omega)
  k_with "k_all" => assumption
  k_with "k_mem" => (first | exact List.Mem.head _ | ktr_member | (refine' List.mem_cons_of_mem _ ?_; k_mem))
  k_with "mine fresh" => (first | assumption | exact ltm_all (by with_reducible assumption) (by walk_at "mine down") | exact lt_ne (by assumption) | exact allLt_ne (by k_asm) | exact off1_mem (by k_asm) | (rename _ ∧ _ => o9; first | exact off1_mem o9.2 | exact off1_mem o9.2.2 | exact off1_mem o9.2.2.2 | exact allLt_ne o9.2 | exact allLt_ne o9.2.2 | exact allLt_ne o9.2.2.2))
  k_with "mine pull" => (repeat' (first | exact Pull.head | refine' Pull.tail ?_))
  k_with "mine in" => (first | exact List.Mem.head _ | (refine' List.Mem.tail _ ?_; walk_at "mine in"))
  k_with "mine rows" => (first | exact RowsIn.nil | (refine' RowsIn.cons ⟨_, _, ?zqm⟩ ?_; (case zqm => walk_at "mine in"); walk_at "mine rows"))
  k_with "mine off" => (first | assumption | (refine List.forall_mem_cons.mpr ⟨by k_ne, ?_⟩; walk_at "mine off"))
  k_with "mine fam" => (refine' ⟨_, _, _, _, _, _, _, ?zqm1, ?zqm2, ?zqm3, ⟨_, _, ?zqm4, ?zqm5⟩, _, _, ?zqm6, ?zqm7⟩; (case zqm1 => walk_at "mine in"); (case zqm2 => walk_at "mine in"); (case zqm3 => walk_at "mine in"); (case zqm4 => walk_at "mine in"); (case zqm5 => walk_at "mine rows"); (case zqm6 => walk_at "mine in"); (case zqm7 => walk_at "mine rows"))
  k_with "mine enterC" => (refine' code_defC ?zqk1 ?zqk2 ?zqk3 ?zqk4 ?zqk5 ?zqkA ?zqkF ?zqkK ?zqk6 ?zqk7 ?zqk8 ?zqk9 ?zqkB ?zqkD ?_ ?zqc2 ?zqc3 ?zqc4; (case zqkA => exact rfl); (case zqkF => exact rfl); (case zqkK => assumption); (case zqk1 => k_asm); (case zqk2 => k_asm); (case zqk3 => k_asm); (case zqk4 => k_asm); (case zqk5 => k_asm); (case zqk6 => k_is); (case zqk7 => k_is); (case zqk8 => ktr_room); (case zqk9 => exact BindsTo.of_eq rfl); (case zqkB => exact rfl); (case zqkD => decide +kernel); (case zqc2 => exact rfl); (case zqc3 => exact rfl); (case zqc4 => exact rfl); k_whole; intro g' L' h' tk' cells' FG' F' N' Y' B' X' T' l1; (try k_lt l1); k_cells Y'; (try simp only [List.cons_append, List.nil_append] at N'); (try dsimp only); (try k_fold))
  k_with "compareOp In int ref" => (k_here; (with_reducible show wpAny _ _ (compareOp CmpOp.In (Value.int _ _) (Value.ref _)) _ _ _); k_dflt (refine in_list_ints (by exact ⟨_, (News.get (by k_asm) (by k_mem)), rfl, _, rfl⟩) (by assumption) ?_))
  k_with "mine prB" => (first | exact prB_1 (by assumption) | exact prB_2 (by assumption) | exact prB_0 (by assumption) (by assumption))
  k_with "call ref" => (k_here; (with_reducible show wpAny _ _ (call (Value.ref 218) _) _ _ _); k_dflt (refine' c_primary ?zqcx ?zqd ?zqu ?zqfm ?zqz1 ?zqz2 _ _ ?_; (case zqcx => walk_at "mine cx"); (case zqd => walk_at "mine room"); (case zqu => walk_at "mine room"); (case zqfm => exact FamAt.mono (by assumption) (by walk_at "mine sub")); (case zqz1 => assumption); (case zqz2 => assumption)); intro r' h' tk' F' N' hr'; obtain ⟨t', er'⟩ := hr'; subst er'; (try dsimp only))
  k_with "call ref" => (k_here; (with_reducible show wpAny _ _ (call (Value.ref 213) _) _ _ _); k_dflt (refine' c_kind ?zqcx ?zqd ?zqu ?zqfm ?zqz1 ?zqz2 _ _ ?_; (case zqcx => walk_at "mine cx"); (case zqd => walk_at "mine room"); (case zqu => walk_at "mine room"); (case zqfm => exact FamAt.mono (by assumption) (by walk_at "mine sub")); (case zqz1 => assumption); (case zqz2 => assumption)); intro r' h' tk' F' N' hr'; obtain ⟨t', er'⟩ := hr'; subst er'; (try dsimp only))
  k_with "exec Assign cons ListComp" => (k_here; k_dflt (refine comp_assign (F₀ := by k_asm) (by rfl) (by with_unfolding_all rfl) (by with_unfolding_all rfl) (by decide) (by rfl) (by decide) (by rfl) (by rfl) ?_ (fun _ => rfl)))
  k_with "call ref" => (k_here; (with_reducible show wpAny _ _ (call (Value.ref 119) _) _ _ _); k_dflt (refine' c_kind_is ?zqcx ?zqd ?zqu ?zqp ?zqK _ _ _ ?zqe ?_; (case zqcx => walk_at "mine cx"); (case zqd => walk_at "mine room"); (case zqu => walk_at "mine room"); (case zqp => walk_at "mine priv"); (case zqK => walk_at "mine dict"); (case zqe => assumption)); intro r' h' tk' F' N' hr'; obtain ⟨t', er'⟩ := hr'; subst er'; (try dsimp only))
  k_with "call ref" => (k_here; (with_reducible show wpAny _ _ (call (Value.ref 138) _) _ _ _); k_dflt (refine' c_vfl_is ?zqcx ?zqd ?zqu ?zqp ?zqK _ _ _ ?zqe ?_; (case zqcx => walk_at "mine cx"); (case zqd => walk_at "mine room"); (case zqu => walk_at "mine room"); (case zqp => walk_at "mine priv"); (case zqK => walk_at "mine dict"); (case zqe => assumption)); intro r' h' tk' F' N' hr'; obtain ⟨t', er'⟩ := hr'; subst er'; (try dsimp only))
  k_with "binaryOp Add ref ref" => (k_here; (with_reducible show wpAny _ _ (binaryOp _ (Value.ref _) (Value.ref _)) _ _ _); k_dflt (refine' kmk_add_ints ?zqF ?zqN ?zqa ?zqb ?zqi ?zqj ?_ ?zqz; (case zqF => k_asm); (case zqN => k_asm); (case zqa => kmk_list); (case zqb => exact ⟨_, (News.get (by k_asm) (by k_mem)), rfl, _, rfl⟩); (case zqi => l_ints); (case zqj => assumption); (case zqz => assumption)); intro D' ws' h' F' N' l1 hI'; (try k_lt l1))
  k_with "call builtin:sorted" => (k_here; (with_reducible show wpAny _ _ (call (Value.builtin "sorted") [Value.ref _]) _ _ _); k_dflt (refine sortL (by k_asm) (by k_asm) (by k_mem) (by assumption) (by assumption) ?_); intro D' h' tk' vs' k' F' N' l1 hi'; (try k_lt l1))
  trivial
section
variable {w : World} {mean : ExcName → Option Value} {mg mb : Str → Option Value} {dp un : Nat} {gd : Option (List Code)} {cn : Str} {cs : Scope} {a : Addr} {ccd : Value} {cl : List (Str × Addr)} {outer : List Env} {A₀ : Around} {base h₀ : Heap} {L : Addr} {m : Str → Option Value} {s : Shared} {news : List (Addr × Obj)} {Q E : Value → Shared → Prop}
  {P kd pd od md : Addr} {DK : List (Int × Str)} {DP DH DM : List (Int × Int)}
theorem lt_ne1 {D : Addr} {l : List (Addr × Obj)} (x : ∀ p ∈ l, p.1 < D) : ∀ p ∈ l, p.1 ≠ D + 1 := fun p h => Nat.ne_of_lt (Nat.lt_succ_of_lt (x p h))
theorem lt_ne2 {D : Addr} {l : List (Addr × Obj)} (x : ∀ p ∈ l, p.1 < D) : ∀ p ∈ l, p.1 ≠ D + 2 := fun p h => Nat.ne_of_lt (Nat.lt_succ_of_lt (Nat.lt_succ_of_lt (x p h)))
theorem lt_ne3 {D : Addr} {l : List (Addr × Obj)} (x : ∀ p ∈ l, p.1 < D) : ∀ p ∈ l, p.1 ≠ D + 3 := fun p h => Nat.ne_of_lt (Nat.lt_succ_of_lt (Nat.lt_succ_of_lt (Nat.lt_succ_of_lt (x p h))))
theorem lt_ne4 {D : Addr} {l : List (Addr × Obj)} (x : ∀ p ∈ l, p.1 < D) : ∀ p ∈ l, p.1 ≠ D + 4 := fun p h => Nat.ne_of_lt (Nat.lt_succ_of_lt (Nat.lt_succ_of_lt (Nat.lt_succ_of_lt (Nat.lt_succ_of_lt (x p h)))))
theorem rowsP25_2 : True := by
  k_with "k_all" => (first | assumption | exact lt_ne1 (by assumption) | exact lt_ne2 (by assumption) | exact lt_ne3 (by assumption) | exact lt_ne4 (by assumption))
  trivial
theorem c_family_is (cx : Cx w mean mg mb outer A₀ base h₀ L m cs s.heap news) (hd : dp + 2 ≤ 500) (hu : un + 20 ≤ 5000)
    (hp : PrivAt news P kd pd od md) (hK : DictAt w news kd (IS DK)) (hP : DictAt w news pd (II DP)) (hz : DK.length < 63) (own : ∀ x ∈ DK.map Prod.fst, ∃ y, DP.lookup x = some y) (kp : ∀ v, DK.lookup v = none ↔ DP.lookup v = none) (v : Int) (t : Tok) {ns : List Int} (e : famF DK DP v = ns)
    (ret : ∀ D h' tk' ys k, Fr h₀ L h' m → News h₀ L h' ((D, listOf (List.toArray ys) k) :: news) → (∀ q ∈ news, @Ne Nat q.1 D) → IntsAre ys ns → Q (.ref D) { s with heap := h', toks := tk' }) :
    wpAny (model PR w) (ktrTop dp un gd cn cs L a ccd cl outer) (call (.ref 131) [.ref P, .int v t]) Q E s := by subst e; exact c_family cx hd hu hp hK hP hz own kp v t ret
theorem bneS {x : Str} (h : (x != x) = true) : False := by simp at h
/-- what the world's data must satisfy at one VLAN, that the law says yes -/
structure VOk (DK : List (Int × Str)) (DP DH DM : List (Int × Int)) (R1 R2 : List (Int × Str)) (PT : List (Int × Told)) (v : Int) : Prop where
  kind : (DK.lookup v).getD "plain" = kindF R1 R2 v
  vfl : vflV DP v = primF R1 R2 v
  fam1 : primF R1 R2 v = 50 → famF DK DP v = [v]
  fam2 : primF R1 R2 v ≠ 50 → famF DK DP v = isort ([primF R1 R2 v] ++ ((if 100 = primF R1 R2 v then R1.map Prod.fst else []) ++ (if 200 = primF R1 R2 v then R2.map Prod.fst else [])))
  own : ∀ k τ, (k, τ) ∈ PT → (match DH.lookup k with | some x => x | none => (DM.lookup k).getD v) = toldV v τ
  lets : ∀ k τ, (k, τ) ∈ PT → letsV DK DP DH DM k v = hearsF R1 R2 v τ
  out : ∀ k τ, (k, τ) ∈ PT → outV DP DH DM k v = outF R1 R2 v τ
theorem rowsP25_3 : True := by
  k_with "call ref" => (k_here; (with_reducible show wpAny _ _ (call (Value.ref 131) _) _ _ _); k_dflt (refine' c_family_is ?zqcx ?zqd ?zqu ?zqp ?zqK ?zqP ?zqz ?zqown ?zqkp _ _ ?zqe ?_; (case zqcx => walk_at "mine cx"); (case zqd => walk_at "mine room"); (case zqu => walk_at "mine room"); (case zqp => walk_at "mine priv"); (case zqK => walk_at "mine dict"); (case zqP => walk_at "mine dict"); (case zqz => assumption); (case zqown => assumption); (case zqkp => assumption); (case zqe => exact rfl)); intro D' h' tk' ys' k' F' N' l1 hi'; (try dsimp only))
  k_with "call ref" => (k_here; (with_reducible show wpAny _ _ (call (Value.ref 239) _) _ _ _); k_dflt (refine' c_ports_right ?zqcx ?zqd ?zqu ?zqfm ?zqh1 ?zqh2 ?zqz1 ?zqz2 ?zqp ?zqK ?zqP ?zqH ?zqM ?zqT ?zqnd _ _ ?zqo1 ?zqo2 ?zqo3 ?zqo4 ?_; (case zqcx => walk_at "mine cx"); (case zqd => walk_at "mine room"); (case zqu => walk_at "mine room"); (case zqfm => exact FamAt.mono (by assumption) (by walk_at "mine sub")); (case zqh1 => assumption); (case zqh2 => assumption); (case zqz1 => assumption); (case zqz2 => assumption); (case zqp => walk_at "mine priv"); (case zqK => walk_at "mine dict"); (case zqP => walk_at "mine dict"); (case zqH => walk_at "mine dict"); (case zqM => walk_at "mine dict"); (case zqT => exact PortsAt.mono (by assumption) (by walk_at "mine sub")); (case zqnd => assumption); (case zqo1 => assumption); (case zqo2 => assumption); (case zqo3 => assumption); (case zqo4 => assumption)); intro r' h' tk' F' N' hr'; subst hr'; (try dsimp only))
  trivial
theorem c_vlan_right {f tb : Addr} {R1 R2 : List (Int × Str)} {PT : List (Int × Told)} (cx : Cx w mean mg mb outer A₀ base h₀ L m cs s.heap news) (hd : dp + 5 ≤ 500) (hu : un + 50 ≤ 5000) (fm : FamAt news f R1 R2) (h1 : R1 ∈ R1s) (h2 : R2 ∈ R2s) (z1 : R1.length ≤ 10) (z2 : R2.length ≤ 10)
    (hp : PrivAt news P kd pd od md) (hK : DictAt w news kd (IS DK)) (hP : DictAt w news pd (II DP)) (hH : DictAt w news od (II DH)) (hM : DictAt w news md (II DM)) (hT : PortsAt w news tb PT) (nd : (PT.map Prod.fst).Nodup)
    (hz : DK.length < 63) (own : ∀ x ∈ DK.map Prod.fst, ∃ y, DP.lookup x = some y) (kp : ∀ v, DK.lookup v = none ↔ DP.lookup v = none) (ok4 : ∀ k x, DH.lookup k = some x → ∃ y, DP.lookup x = some y) (v : Int) (t : Tok)
    (ok : VOk DK DP DH DM R1 R2 PT v)
    (ret : Ret h₀ L m s Q news (· = .bool true)) :
    wpAny (model PR w) (ktrTop dp un gd cn cs L a ccd cl outer) (call (.ref 244) [.ref P, .ref tb, .ref f, .int v t]) Q E s := by
  obtain ⟨B, F, X, N, T, hk⟩ := cx
  obtain ⟨ok1, ok2, ok3, ok3', o1, o2, o3⟩ := ok
  have z1' : R1.length ≤ 100 := by omega
  have z2' : R2.length ≤ 100 := by omega
  have hp0 := hp
  obtain ⟨dx, i1, i2, i3, i4, j1, j2, j3, j4, n, mP, mD⟩ := hp
  have fm0 := fm
  obtain ⟨n', a1, a2, r1, r2, t1, t2, m1, m2, m3, q1, q2⟩ := fm
  refine wpAny_call ?_
  k_dflt (walk_at "mine enterC")
  k_steps
  k_dflt (refine' fam_rows (B1 := decide (100 = primF R1 R2 v)) (B2 := decide (200 = primF R1 R2 v)) ?hh (by rfl) (by rfl) (by rfl) (by rfl) (by rfl) (by decide) (by decide) (by decide) (by decide) ?F ?N ?m1 ?m2 ?m3 ?q1 ?q2 z1 z2 (TestAt.ok ?T1) (TestAt.ok ?T2) ?K; (case hh => rfl); (case F => k_asm); (case N => k_asm); (case m1 => k_mem); (case m2 => k_mem); (case m3 => k_mem); (case q1 => exact RowsAt.mono q1 (by walk_at "mine sub")); (case q2 => exact RowsAt.mono q2 (by walk_at "mine sub")))
  case T1 =>
    intro I' oI' C' oC' D' ys' mc' h' tk' Q' E' hC' hx' hy' F' N' off' ne' hQ'
    k_steps
    all_goals exact hQ' _ _ _ rfl (by k_asm) (newsSub (by k_asm) (by walk_at "mine sub"))
  case T2 =>
    intro I' oI' C' oC' D' ys' mc' h' tk' Q' E' hC' hx' hy' F' N' off' ne' hQ'
    k_steps
    all_goals exact hQ' _ _ _ rfl (by k_asm) (newsSub (by k_asm) (by walk_at "mine sub"))
  case K =>
    intro D' ys' hi' off' h' tk' F' N'
    simp only [decide_eq_true_eq] at hi'
    have hlen : ((if 100 = primF R1 R2 v then R1.map Prod.fst else []) ++ (if 200 = primF R1 R2 v then R2.map Prod.fst else [])).length ≤ 20 := by
      rw [List.length_append]
      have ha : (if 100 = primF R1 R2 v then R1.map Prod.fst else []).length ≤ 10 := by split <;> simp <;> omega
      have hb : (if 200 = primF R1 R2 v then R2.map Prod.fst else []).length ≤ 10 := by split <;> simp <;> omega
      omega
    generalize ((if 100 = primF R1 R2 v then R1.map Prod.fst else []) ++ (if 200 = primF R1 R2 v then R2.map Prod.fst else [])) = ms at hi' ok3' hlen
    have s1 : [primF R1 R2 v].length + ms.length ≤ sizeLine := by rw [sizeLine_eq]; show 1 + _ ≤ _; omega
    have s2 : ([primF R1 R2 v] ++ ms).length < 64 := by rw [List.length_append]; show 1 + _ < _; omega
    k_steps
    all_goals first
      | exact absurd rfl (by assumption)
      | exact (bneS (by assumption)).elim
      | exact ret _ _ _ (by k_asm) (newsSub (by k_asm) (by walk_at "mine sub")) (by first | rfl | exact congrArg Value.bool (decide_eq_true (ok3 (by assumption))) | exact congrArg Value.bool (decide_eq_true (ok3' (by assumption))))
end
end Mine
namespace Mine
theorem rowsP26_0 : True := by
  k_with_none
  k_with "mine down" => (first | exact fun _ h => h | (refine dn ?_; walk_at "mine down"))
  k_with "k_ne" => (first | with_reducible assumption | exact Ne.symm (by with_reducible assumption) | exact ltm_ne (by with_reducible assumption) (by k_mem) | exact ltm_en (by with_reducible assumption) (by k_mem) | exact Nat.ne_of_lt (by with_reducible assumption) | exact Nat.ne_of_gt (by with_reducible assumption) | exact ltm_c1 (by with_reducible assumption) (by k_mem) | exact ltm_d1 (by with_reducible assumption) (by k_mem) | exact ltm_c2 (by with_reducible assumption) (by k_mem) | exact ltm_d2 (by with_reducible assumption) (by k_mem) | exact ltm_c3 (by with_reducible assumption) (by k_mem) | exact ltm_d3 (by with_reducible assumption) (by k_mem) | exact ltm_c4 (by with_reducible assumption) (by k_mem) | exact ltm_d4 (by with_reducible assumption) (by k_mem) | exact ltm_c5 (by with_reducible assumption) (by k_mem) | exact ltm_d5 (by with_reducible assumption) (by k_mem) | (refine neN ?_; (try dsimp only); omega))
  k_with "k_all" => (first | exact ltm_all (by with_reducible assumption) (by walk_at "mine down") | exact ltm_a1 (by with_reducible assumption) (by walk_at "mine down") | exact ltm_a2 (by with_reducible assumption) (by walk_at "mine down") | exact ltm_a3 (by with_reducible assumption) (by walk_at "mine down") | exact ltm_a4 (by with_reducible assumption) (by walk_at "mine down") | exact ltm_a5 (by with_reducible assumption) (by walk_at "mine down"))
  trivial
theorem fill26 : (hd.heap_1 = hd.heap_1) ∧ (PySem.Challenge.rw_pb0538_01 = PySem.Challenge.rw_pb0538_01) := by k_fill; exact ⟨rfl, rfl⟩
theorem rowsP26_1 : True := by
  k_with "mine cx" => exact ⟨by k_asm, by k_asm, by k_asm, by k_asm, by k_asm, by first | exact rfl | assumption⟩
  k_with "mine sub" => (first | exact fun _ h => h | exact sub_skip (fun _ h => h) | exact sub_skip (sub_skip (fun _ h => h)) | exact sub_skip (sub_skip (sub_skip (fun _ h => h))) | exact sub_skip (sub_skip (sub_skip (sub_skip (fun _ h => h)))) | exact sub_skip (sub_skip (sub_skip (sub_skip (sub_skip (fun _ h => h))))) | exact sub_skip (sub_skip (sub_skip (sub_skip (sub_skip (sub_skip (fun _ h => h)))))) | exact sub_keep (sub_skip (fun _ h => h)) | exact sub_keep (sub_skip (sub_skip (fun _ h => h))) | exact sub_keep (sub_skip (sub_skip (sub_skip (fun _ h => h)))) | exact sub_keep (sub_skip (sub_skip (sub_skip (sub_skip (fun _ h => h))))) | exact sub_keep (sub_skip (sub_skip (sub_skip (sub_skip (sub_skip (fun _ h => h)))))) | exact sub_keep (sub_skip (sub_skip (sub_skip (sub_skip (sub_skip (sub_skip (fun _ h => h))))))))
  k_with "mine priv" => (first | assumption | exact PrivAt.mono (by assumption) (by walk_at "mine sub"))
  k_with "mine dict" => (first | assumption | exact DictAt.mono (by assumption) (by walk_at "mine sub"))
  k_with "mine room" => ((try simp only [depth_under_make, depth_under_kw, depth_in1, depth_deeper, depth_caller, units_in1, units_deeper, Around.mark_units, units_caller]); (try dsimp only [ktrTop]); omega)
  k_with "k_all" => assumption
  k_with "k_mem" => (first | exact List.Mem.head _ | ktr_member | (refine' List.mem_cons_of_mem _ ?_; k_mem))
  k_with "mine fresh" => (first | assumption | exact ltm_all (by with_reducible assumption) (by walk_at "mine down") | exact lt_ne (by assumption) | exact allLt_ne (by k_asm) | exact off1_mem (by k_asm) | (rename _ ∧ _ => o9; first | exact off1_mem o9.2 | exact off1_mem o9.2.2 | exact off1_mem o9.2.2.2 | exact allLt_ne o9.2 | exact allLt_ne o9.2.2 | exact allLt_ne o9.2.2.2))
  k_with "mine pull" => (repeat' (first | exact Pull.head | refine' Pull.tail ?_))
  k_with "mine in" => (first | exact List.Mem.head _ | (refine' List.Mem.tail _ ?_; walk_at "mine in"))
  k_with "mine rows" => (first | exact RowsIn.nil | (refine' RowsIn.cons ⟨_, _, ?zqm⟩ ?_; (case zqm => walk_at "mine in"); walk_at "mine rows"))
  k_with "mine off" => (first | assumption | (refine List.forall_mem_cons.mpr ⟨by k_ne, ?_⟩; walk_at "mine off"))
  k_with "mine fam" => (refine' ⟨_, _, _, _, _, _, _, ?zqm1, ?zqm2, ?zqm3, ⟨_, _, ?zqm4, ?zqm5⟩, _, _, ?zqm6, ?zqm7⟩; (case zqm1 => walk_at "mine in"); (case zqm2 => walk_at "mine in"); (case zqm3 => walk_at "mine in"); (case zqm4 => walk_at "mine in"); (case zqm5 => walk_at "mine rows"); (case zqm6 => walk_at "mine in"); (case zqm7 => walk_at "mine rows"))
  k_with "mine enterC" => (refine' code_defC ?zqk1 ?zqk2 ?zqk3 ?zqk4 ?zqk5 ?zqkA ?zqkF ?zqkK ?zqk6 ?zqk7 ?zqk8 ?zqk9 ?zqkB ?zqkD ?_ ?zqc2 ?zqc3 ?zqc4; (case zqkA => exact rfl); (case zqkF => exact rfl); (case zqkK => assumption); (case zqk1 => k_asm); (case zqk2 => k_asm); (case zqk3 => k_asm); (case zqk4 => k_asm); (case zqk5 => k_asm); (case zqk6 => k_is); (case zqk7 => k_is); (case zqk8 => ktr_room); (case zqk9 => exact BindsTo.of_eq rfl); (case zqkB => exact rfl); (case zqkD => decide +kernel); (case zqc2 => exact rfl); (case zqc3 => exact rfl); (case zqc4 => exact rfl); k_whole; intro g' L' h' tk' cells' FG' F' N' Y' B' X' T' l1; (try k_lt l1); k_cells Y'; (try simp only [List.cons_append, List.nil_append] at N'); (try dsimp only); (try k_fold))
  k_with "mine prB" => (first | exact prB_1 (by assumption) | exact prB_2 (by assumption) | exact prB_0 (by assumption) (by assumption))
  k_with "call builtin:sorted" => (k_here; (with_reducible show wpAny _ _ (call (Value.builtin "sorted") [Value.ref _]) _ _ _); k_dflt (refine sortL (by k_asm) (by k_asm) (by k_mem) (by assumption) (by assumption) ?_); intro D' h' tk' vs' k' F' N' l1 hi'; (try k_lt l1))
  k_with "k_all" => (first | assumption | exact lt_ne1 (by assumption) | exact lt_ne2 (by assumption) | exact lt_ne3 (by assumption) | exact lt_ne4 (by assumption))
  trivial
section
variable {w : World} {mean : ExcName → Option Value} {mg mb : Str → Option Value} {dp un : Nat} {gd : Option (List Code)} {cn : Str} {cs : Scope} {a : Addr} {ccd : Value} {cl : List (Str × Addr)} {outer : List Env} {A₀ : Around} {base h₀ : Heap} {L : Addr} {m : Str → Option Value} {s : Shared} {news : List (Addr × Obj)} {Q E : Value → Shared → Prop}
  {P kd pd od md : Addr} {DK : List (Int × Str)} {DP DH DM : List (Int × Int)}
theorem rowsP26_2 : True := by
  k_with "k_all" => (first | assumption | exact lt_ne (by assumption) | exact lt_ne1 (by assumption) | exact lt_ne2 (by assumption) | exact lt_ne3 (by assumption) | exact lt_ne4 (by assumption) | exact allLt_ne (by k_asm))
  trivial
theorem c_new (cx : Cx w mean mg mb outer A₀ base h₀ L m cs s.heap news) (hd : dp + 2 ≤ 500) (hu : un + 20 ≤ 5000)
    (ret : ∀ P dx kd pd od md (o1 o2 o3 o4 : Obj) t1 t2 t3 t4 i1 i2 i3 i4 n h' tk', Fr h₀ L h' m → News h₀ L h' ((md, o4) :: (od, o3) :: (pd, o2) :: (kd, o1) :: (P, instObj 162 dx) :: (dx, dictOf [⟨i1, .str "kinds" t1, .ref kd⟩, ⟨i2, .str "primary" t2, .ref pd⟩, ⟨i3, .str "hosts" t3, .ref od⟩, ⟨i4, .str "promiscuous" t4, .ref md⟩] n) :: news) →
      o1.IsDictOf (intKind PR w) [] → o2.IsDictOf (intKind PR w) [] → o3.IsDictOf (intKind PR w) [] → o4.IsDictOf (intKind PR w) [] → (kd == sysModules) = false → (pd == sysModules) = false → (od == sysModules) = false → (md == sysModules) = false →
      (∀ p ∈ news, @LT.lt Nat _ p.1 dx) → @LT.lt Nat _ dx P → @LT.lt Nat _ P kd → @LT.lt Nat _ kd pd → @LT.lt Nat _ pd od → @LT.lt Nat _ od md → Q (.ref P) { s with heap := h', toks := tk' }) :
    wpAny (model PR w) (ktrTop dp un gd cn cs L a ccd cl outer) (call (.ref 162) []) Q E s := by
  obtain ⟨B, F, X, N, T, hk⟩ := cx
  k_dflt (refine' call_cls ?k1 ?k2 ?k3 ?k4 ?k5 ?k6 ?_; (case k1 => k_asm); (case k2 => k_asm); (case k3 => k_asm); (case k4 => k_is); (case k5 => k_is); (case k6 => k_is); k_whole; intro x' d' h' F' N' l1 l2; k_lt2 l2)
  k_dflt ktr_enter
  k_steps
  exact ret _ _ _ _ _ _ _ _ _ _ _ _ _ _ _ _ _ _ _ _ _ (by k_asm) (by k_asm) (by assumption) (by assumption) (by assumption) (by assumption) (by assumption) (by assumption) (by assumption) (by assumption) l1 l2 (by first | omega | exact ltm_lt (by with_reducible assumption) (by k_mem)) (by first | omega | exact ltm_lt (by with_reducible assumption) (by k_mem)) (by first | omega | exact ltm_lt (by with_reducible assumption) (by k_mem)) (by first | omega | exact ltm_lt (by with_reducible assumption) (by k_mem))
end
end Mine
namespace Mine
theorem rowsP27_0 : True := by
  k_with_none
  k_with "mine down" => (first | exact fun _ h => h | (refine dn ?_; walk_at "mine down"))
  k_with "k_ne" => (first | with_reducible assumption | exact Ne.symm (by with_reducible assumption) | exact ltm_ne (by with_reducible assumption) (by k_mem) | exact ltm_en (by with_reducible assumption) (by k_mem) | exact Nat.ne_of_lt (by with_reducible assumption) | exact Nat.ne_of_gt (by with_reducible assumption) | exact ltm_c1 (by with_reducible assumption) (by k_mem) | exact ltm_d1 (by with_reducible assumption) (by k_mem) | exact ltm_c2 (by with_reducible assumption) (by k_mem) | exact ltm_d2 (by with_reducible assumption) (by k_mem) | exact ltm_c3 (by with_reducible assumption) (by k_mem) | exact ltm_d3 (by with_reducible assumption) (by k_mem) | exact ltm_c4 (by with_reducible assumption) (by k_mem) | exact ltm_d4 (by with_reducible assumption) (by k_mem) | exact ltm_c5 (by with_reducible assumption) (by k_mem) | exact ltm_d5 (by with_reducible assumption) (by k_mem) | (refine neN ?_; (try dsimp only); omega))
  k_with "k_all" => (first | exact ltm_all (by with_reducible assumption) (by walk_at "mine down") | exact ltm_a1 (by with_reducible assumption) (by walk_at "mine down") | exact ltm_a2 (by with_reducible assumption) (by walk_at "mine down") | exact ltm_a3 (by with_reducible assumption) (by walk_at "mine down") | exact ltm_a4 (by with_reducible assumption) (by walk_at "mine down") | exact ltm_a5 (by with_reducible assumption) (by walk_at "mine down"))
  trivial
section
variable {w : World} {mean : ExcName → Option Value} {mg mb : Str → Option Value} {dp un : Nat} {gd : Option (List Code)} {cn : Str} {cs : Scope} {a : Addr} {ccd : Value} {cl : List (Str × Addr)} {outer : List Env} {A₀ : Around} {base h₀ : Heap} {L : Addr} {m : Str → Option Value} {s : Shared} {news : List (Addr × Obj)} {Q E : Value → Shared → Prop}
  {P kd pd od md : Addr} {DK : List (Int × Str)} {DP DH DM : List (Int × Int)}
/-- a ledger without an address -/
def offs (d : Addr) (news : List (Addr × Obj)) : List (Addr × Obj) := news.filter fun q => decide (q.1 ≠ d)
theorem offs_mem {d : Addr} {p : Addr × Obj} : p ∈ offs d news ↔ p ∈ news ∧ p.1 ≠ d := by unfold offs; rw [List.mem_filter]; simp
theorem UpdF.here {d : Addr} {o : Obj} {g : Obj → List (Addr × Obj)} (U : UpdF d o news g) : (d, o) ∈ news := by
  obtain ⟨pre, post, rfl, -, -, -⟩ := U.split
  exact List.mem_append_right _ (.head _)
theorem UpdF.same {d : Addr} {o : Obj} {g : Obj → List (Addr × Obj)} (U : UpdF d o news g) : g o = news := by
  obtain ⟨pre, post, rfl, hg, -, -⟩ := U.split
  exact hg o
theorem UpdF.out {d : Addr} {o o' : Obj} {g : Obj → List (Addr × Obj)} (U : UpdF d o news g) {q : Addr × Obj} (h : q ∈ g o') : q = (d, o') ∨ q ∈ offs d news := by
  obtain ⟨pre, post, rfl, hg, h1, h2⟩ := U.split
  rw [hg] at h
  rcases List.mem_append.mp h with h | h
  · exact .inr (offs_mem.mpr ⟨List.mem_append_left _ h, h1 _ h⟩)
  · rcases List.mem_cons.mp h with h | h
    · exact .inl h
    · exact .inr (offs_mem.mpr ⟨List.mem_append_right _ (.tail _ h), h2 _ h⟩)
theorem DictAt.offs {d : Addr} {kd : Addr} {D : List (PyData × PyData)} (ne : @Ne Nat kd d) (h : DictAt w news kd D) : DictAt w (offs d news) kd D :=
  let ⟨o, kvs, a, b, c, e⟩ := h; ⟨o, kvs, offs_mem.mpr ⟨a, ne⟩, b, c, e⟩
theorem not_inst {C : Addr} {dx : Addr} {kvs : List (Int × Value)} (h : (instObj C dx).IsDictOf (intKind PR w) kvs) : False := by
  obtain ⟨es, ep, hx, -⟩ := h
  exact absurd hx.1 (by intro q; cases q)
theorem not_names {h1 : Int} {x : Str} {t1 : Tok} {v : Value} {r : List DictEntry} {n : Nat} {kvs : List (Int × Value)} (h : (dictOf (⟨h1, .str x t1, v⟩ :: r) n).IsDictOf (intKind PR w) kvs) : False := by
  obtain ⟨es, ep, -, hx, -, hp, -⟩ := h
  have e : es = (⟨h1, .str x t1, v⟩ :: r : List DictEntry).toArray := by
    have hx' : Data.dict (⟨h1, .str x t1, v⟩ :: r : List DictEntry).toArray n = Data.dict es ep := hx
    exact (Data.dict.inj hx').1.symm
  subst e
  cases hp with
  | cons a _ _ =>
    have a' : (intKind PR w).is _ (Value.str x t1) = true := a
    exact absurd a' Bool.false_ne_true
theorem PrivAt.offs {h : Heap} {d : Addr} {o : Obj} {kvs : List (Int × Value)} (N : News h₀ L h news) (hp : PrivAt news P kd pd od md) (hm : (d, o) ∈ news) (hd : o.IsDictOf (intKind PR w) kvs) : PrivAt (offs d news) P kd pd od md := by
  obtain ⟨dx, h1, h2, h3, h4, t1, t2, t3, t4, n, a, b⟩ := hp
  refine ⟨dx, h1, h2, h3, h4, t1, t2, t3, t4, n, offs_mem.mpr ⟨a, fun e => ?_⟩, offs_mem.mpr ⟨b, fun e => ?_⟩⟩
  · have x := (N _ a).1
    rw [e, (N _ hm).1] at x
    have y : o = instObj 162 dx := Option.some.inj x
    rw [y] at hd
    exact not_inst hd
  · have x := (N _ b).1
    rw [e, (N _ hm).1] at x
    have y : o = dictOf _ n := Option.some.inj x
    rw [y] at hd
    exact not_names hd
theorem one_cx {d : Addr} {o : Obj} {g : Obj → List (Addr × Obj)} (U : UpdF d o news g) (cx : Cx w mean mg mb outer A₀ base h₀ L m cs s.heap news) : Cx w mean mg mb outer A₀ base h₀ L m cs s.heap ((d, o) :: offs d news) :=
  ⟨cx.B, cx.F, cx.X, fun p hp => by
      rcases List.mem_cons.mp hp with rfl | hp
      · exact cx.N _ (UpdF.here U)
      · exact cx.N _ (offs_mem.mp hp).1, cx.T, cx.hk⟩
theorem one_news {h : Heap} {d : Addr} {o o' : Obj} {g : Obj → List (Addr × Obj)} (U : UpdF d o news g) (N : News h₀ L h ((d, o') :: offs d news)) : News h₀ L h (g o') := fun p hp => by
  rcases UpdF.out U hp with rfl | hp
  · exact N _ (.head _)
  · exact N _ (.tail _ hp)
theorem two_cx {d d2 : Addr} {o o2 : Obj} {g1 : Obj → List (Addr × Obj)} {g2 : Obj → Obj → List (Addr × Obj)} (U1 : UpdF d o news g1) (U2 : ∀ x, UpdF d2 o2 (g1 x) (g2 x)) (cx : Cx w mean mg mb outer A₀ base h₀ L m cs s.heap news) : Cx w mean mg mb outer A₀ base h₀ L m cs s.heap ((d, o) :: (d2, o2) :: offs d2 (offs d news)) :=
  ⟨cx.B, cx.F, cx.X, fun p hp => by
      rcases List.mem_cons.mp hp with rfl | hp
      · exact cx.N _ (UpdF.here U1)
      · rcases List.mem_cons.mp hp with rfl | hp
        · have := UpdF.here (U2 o)
          rw [UpdF.same U1] at this
          exact cx.N _ this
        · exact cx.N _ (offs_mem.mp (offs_mem.mp hp).1).1, cx.T, cx.hk⟩
theorem two_news {h : Heap} {d d2 : Addr} {o o2 o' o2' : Obj} {g1 : Obj → List (Addr × Obj)} {g2 : Obj → Obj → List (Addr × Obj)} (U1 : UpdF d o news g1) (U2 : ∀ x, UpdF d2 o2 (g1 x) (g2 x)) (N : News h₀ L h ((d, o') :: (d2, o2') :: offs d2 (offs d news))) : News h₀ L h (g2 o' o2') := fun p hp => by
  rcases UpdF.out (U2 o') hp with rfl | hp
  · exact N _ (.tail _ (.head _))
  · obtain ⟨hp, ne⟩ := offs_mem.mp hp
    rcases UpdF.out U1 hp with rfl | hp
    · exact N _ (.head _)
    · exact N _ (.tail _ (.tail _ (offs_mem.mpr ⟨hp, ne⟩)))
theorem two_here {d d2 : Addr} {o o2 : Obj} {g1 : Obj → List (Addr × Obj)} {g2 : Obj → Obj → List (Addr × Obj)} (U1 : UpdF d o news g1) (U2 : ∀ x, UpdF d2 o2 (g1 x) (g2 x)) : (d2, o2) ∈ news := by
  have := UpdF.here (U2 o)
  rwa [UpdF.same U1] at this
theorem c_set_hostU {oH : Obj} {kvsH : List (Int × Value)} {g : Obj → List (Addr × Obj)} (cx : Cx w mean mg mb outer A₀ base h₀ L m cs s.heap news) (U : UpdF od oH news g) (hd : dp + 2 ≤ 500) (hu : un + 20 ≤ 5000)
    (hp : PrivAt news P kd pd od md) (hK : DictAt w news kd (IS DK)) (hM : DictAt w news md (II DM)) (nk : @Ne Nat kd od) (nm : @Ne Nat md od) (lo : (od == sysModules) = false)
    (dH : oH.IsDictOf (intKind PR w) kvsH) (fH : FlatPairs PyData.int kvsH (II DH)) (hz : DH.length ≤ 100) (p v : Int) (t t' : Tok) (e1 : DH.lookup p = none) (e2 : DM.lookup p = none)
    (ek : (DK.lookup v).getD "plain" = "isolated" ∨ (DK.lookup v).getD "plain" = "community")
    (ret : ∀ h' tk' o' kvs', Fr h₀ L h' m → News h₀ L h' (g o') → o'.IsDictOf (intKind PR w) kvs' → FlatPairs PyData.int kvs' (II (DH ++ [(p, v)])) → Q .none { s with heap := h', toks := tk' }) :
    wpAny (model PR w) (ktrTop dp un gd cn cs L a ccd cl outer) (call (.ref 98) [.ref P, .int p t, .int v t']) Q E s :=
  c_set_host (one_cx U cx) hd hu (hp.offs (w := w) cx.N (UpdF.here U) dH) (hK.offs nk) (hM.offs nm) (fun q hq => (offs_mem.mp hq).2) lo dH fH hz p v t t' e1 e2 ek fun h' tk' o' kvs' F' N' d' f' => ret h' tk' o' kvs' F' (one_news U N') d' f'
theorem c_set_promU {oM : Obj} {kvsM : List (Int × Value)} {g : Obj → List (Addr × Obj)} (cx : Cx w mean mg mb outer A₀ base h₀ L m cs s.heap news) (U : UpdF md oM news g) (hd : dp + 2 ≤ 500) (hu : un + 20 ≤ 5000)
    (hp : PrivAt news P kd pd od md) (hK : DictAt w news kd (IS DK)) (hH : DictAt w news od (II DH)) (nk : @Ne Nat kd md) (nh : @Ne Nat od md) (lo : (md == sysModules) = false)
    (dM : oM.IsDictOf (intKind PR w) kvsM) (fM : FlatPairs PyData.int kvsM (II DM)) (hz : DM.length ≤ 100) (p v : Int) (t t' : Tok) (e1 : DH.lookup p = none) (e2 : DM.lookup p = none)
    (ek : (DK.lookup v).getD "plain" = "primary")
    (ret : ∀ h' tk' o' kvs', Fr h₀ L h' m → News h₀ L h' (g o') → o'.IsDictOf (intKind PR w) kvs' → FlatPairs PyData.int kvs' (II (DM ++ [(p, v)])) → Q .none { s with heap := h', toks := tk' }) :
    wpAny (model PR w) (ktrTop dp un gd cn cs L a ccd cl outer) (call (.ref 105) [.ref P, .int p t, .int v t']) Q E s :=
  c_set_prom (one_cx U cx) hd hu (hp.offs (w := w) cx.N (UpdF.here U) dM) (hK.offs nk) (hH.offs nh) (fun q hq => (offs_mem.mp hq).2) lo dM fM hz p v t t' e1 e2 ek fun h' tk' o' kvs' F' N' d' f' => ret h' tk' o' kvs' F' (one_news U N') d' f'
theorem off_kp {h : Heap} {oK oP : Obj} {kvsK kvsP : List (Int × Value)} {g1 : Obj → List (Addr × Obj)} {g2 : Obj → Obj → List (Addr × Obj)} (N : News h₀ L h news) (U1 : UpdF kd oK news g1) (U2 : ∀ x, UpdF pd oP (g1 x) (g2 x)) (npk : @Ne Nat pd kd) (hp : PrivAt news P kd pd od md)
    (dK : oK.IsDictOf (intKind PR w) kvsK) (dP : oP.IsDictOf (intKind PR w) kvsP) : PrivAt (offs pd (offs kd news)) P kd pd od md :=
  PrivAt.offs (w := w) (h := h) (L := L) (h₀ := h₀) (fun p hp => N p (offs_mem.mp hp).1) (hp.offs (w := w) N (UpdF.here U1) dK) (offs_mem.mpr ⟨two_here U1 U2, npk⟩) dP
theorem c_add_primaryU {oK oP : Obj} {kvsK kvsP : List (Int × Value)} {g1 : Obj → List (Addr × Obj)} {g2 : Obj → Obj → List (Addr × Obj)} (cx : Cx w mean mg mb outer A₀ base h₀ L m cs s.heap news) (U1 : UpdF kd oK news g1) (U2 : ∀ x, UpdF pd oP (g1 x) (g2 x)) (hd : dp + 2 ≤ 500) (hu : un + 20 ≤ 5000)
    (hp : PrivAt news P kd pd od md) (npk : @Ne Nat pd kd) (loK : (kd == sysModules) = false) (loP : (pd == sysModules) = false)
    (dK : oK.IsDictOf (intKind PR w) kvsK) (fK : FlatPairs PyData.int kvsK (IS DK)) (hz : DK.length ≤ 50) (dP : oP.IsDictOf (intKind PR w) kvsP) (fP : FlatPairs PyData.int kvsP (II DP)) (hz2 : DP.length ≤ 50)
    (v : Int) (t : Tok) (e1 : DK.lookup v = none) (e2 : DP.lookup v = none)
    (ret : ∀ h' tk' oK' kvsK' oP' kvsP', Fr h₀ L h' m → News h₀ L h' (g2 oK' oP') → oK'.IsDictOf (intKind PR w) kvsK' → FlatPairs PyData.int kvsK' (IS (DK ++ [(v, ("primary" : Str))])) →
      oP'.IsDictOf (intKind PR w) kvsP' → FlatPairs PyData.int kvsP' (II (DP ++ [(v, v)])) → Q .none { s with heap := h', toks := tk' }) :
    wpAny (model PR w) (ktrTop dp un gd cn cs L a ccd cl outer) (call (.ref 79) [.ref P, .int v t]) Q E s :=
  c_add_primary (two_cx U1 U2 cx) hd hu (off_kp cx.N U1 U2 npk hp dK dP) (Ne.symm npk) npk (fun q hq => (offs_mem.mp (offs_mem.mp hq).1).2) (fun q hq => (offs_mem.mp hq).2) loK loP dK fK (by omega) dP fP (by omega) v t e1 e2
    fun h' tk' oK' kvsK' oP' kvsP' F' N' a b c d => ret h' tk' oK' kvsK' oP' kvsP' F' (two_news U1 U2 N') a b c d
theorem c_add_comU {oK oP : Obj} {kvsK kvsP : List (Int × Value)} {g1 : Obj → List (Addr × Obj)} {g2 : Obj → Obj → List (Addr × Obj)} (cx : Cx w mean mg mb outer A₀ base h₀ L m cs s.heap news) (U1 : UpdF kd oK news g1) (U2 : ∀ x, UpdF pd oP (g1 x) (g2 x)) (hd : dp + 4 ≤ 500) (hu : un + 40 ≤ 5000)
    (hp : PrivAt news P kd pd od md) (npk : @Ne Nat pd kd) (loK : (kd == sysModules) = false) (loP : (pd == sysModules) = false)
    (dK : oK.IsDictOf (intKind PR w) kvsK) (fK : FlatPairs PyData.int kvsK (IS DK)) (hz : DK.length ≤ 50) (dP : oP.IsDictOf (intKind PR w) kvsP) (fP : FlatPairs PyData.int kvsP (II DP)) (hz2 : DP.length ≤ 50)
    (p v : Int) (t t' t3 : Tok) (e1 : DK.lookup v = none) (e2 : DP.lookup v = none) (ek : (DK.lookup p).getD "plain" = "primary")
    (ret : ∀ h' tk' oK' kvsK' oP' kvsP', Fr h₀ L h' m → News h₀ L h' (g2 oK' oP') → oK'.IsDictOf (intKind PR w) kvsK' → FlatPairs PyData.int kvsK' (IS (DK ++ [(v, ("community" : Str))])) →
      oP'.IsDictOf (intKind PR w) kvsP' → FlatPairs PyData.int kvsP' (II (DP ++ [(v, p)])) → Q .none { s with heap := h', toks := tk' }) :
    wpAny (model PR w) (ktrTop dp un gd cn cs L a ccd cl outer) (call (.ref 84) [.ref P, .int p t, .int v t', .str "community" t3]) Q E s :=
  c_add_com (two_cx U1 U2 cx) hd hu (off_kp cx.N U1 U2 npk hp dK dP) (Ne.symm npk) npk (fun q hq => (offs_mem.mp (offs_mem.mp hq).1).2) (fun q hq => (offs_mem.mp hq).2) loK loP dK fK hz dP fP hz2 p v t t' t3 e1 e2 ek
    fun h' tk' oK' kvsK' oP' kvsP' F' N' a b c d => ret h' tk' oK' kvsK' oP' kvsP' F' (two_news U1 U2 N') a b c d
theorem c_add_isoU {oK oP : Obj} {kvsK kvsP : List (Int × Value)} {g1 : Obj → List (Addr × Obj)} {g2 : Obj → Obj → List (Addr × Obj)} (cx : Cx w mean mg mb outer A₀ base h₀ L m cs s.heap news) (U1 : UpdF kd oK news g1) (U2 : ∀ x, UpdF pd oP (g1 x) (g2 x)) (hd : dp + 4 ≤ 500) (hu : un + 40 ≤ 5000)
    (hp : PrivAt news P kd pd od md) (npk : @Ne Nat pd kd) (loK : (kd == sysModules) = false) (loP : (pd == sysModules) = false)
    (dK : oK.IsDictOf (intKind PR w) kvsK) (fK : FlatPairs PyData.int kvsK (IS DK)) (hz : DK.length ≤ 50) (dP : oP.IsDictOf (intKind PR w) kvsP) (fP : FlatPairs PyData.int kvsP (II DP)) (hz2 : DP.length ≤ 50)
    (p v : Int) (t t' t3 : Tok) (own : ∀ x ∈ DK.map Prod.fst, ∃ y, DP.lookup x = some y) (es : secF DK DP p = []) (e1 : DK.lookup v = none) (e2 : DP.lookup v = none) (ek : (DK.lookup p).getD "plain" = "primary")
    (ret : ∀ h' tk' oK' kvsK' oP' kvsP', Fr h₀ L h' m → News h₀ L h' (g2 oK' oP') → oK'.IsDictOf (intKind PR w) kvsK' → FlatPairs PyData.int kvsK' (IS (DK ++ [(v, ("isolated" : Str))])) →
      oP'.IsDictOf (intKind PR w) kvsP' → FlatPairs PyData.int kvsP' (II (DP ++ [(v, p)])) → Q .none { s with heap := h', toks := tk' }) :
    wpAny (model PR w) (ktrTop dp un gd cn cs L a ccd cl outer) (call (.ref 84) [.ref P, .int p t, .int v t', .str "isolated" t3]) Q E s :=
  c_add_iso (two_cx U1 U2 cx) hd hu (off_kp cx.N U1 U2 npk hp dK dP) (Ne.symm npk) npk (fun q hq => (offs_mem.mp (offs_mem.mp hq).1).2) (fun q hq => (offs_mem.mp hq).2) loK loP dK fK hz dP fP hz2 p v t t' t3 own es e1 e2 ek
    fun h' tk' oK' kvsK' oP' kvsP' F' N' a b c d => ret h' tk' oK' kvsK' oP' kvsP' F' (two_news U1 U2 N') a b c d
end
end Mine
namespace Mine
theorem rowsP28_0 : True := by
  k_with_none
  k_with "mine down" => (first | exact fun _ h => h | (refine dn ?_; walk_at "mine down"))
  k_with "k_ne" => (first | with_reducible assumption | exact Ne.symm (by with_reducible assumption) | exact ltm_ne (by with_reducible assumption) (by k_mem) | exact ltm_en (by with_reducible assumption) (by k_mem) | exact Nat.ne_of_lt (by with_reducible assumption) | exact Nat.ne_of_gt (by with_reducible assumption) | exact ltm_c1 (by with_reducible assumption) (by k_mem) | exact ltm_d1 (by with_reducible assumption) (by k_mem) | exact ltm_c2 (by with_reducible assumption) (by k_mem) | exact ltm_d2 (by with_reducible assumption) (by k_mem) | exact ltm_c3 (by with_reducible assumption) (by k_mem) | exact ltm_d3 (by with_reducible assumption) (by k_mem) | exact ltm_c4 (by with_reducible assumption) (by k_mem) | exact ltm_d4 (by with_reducible assumption) (by k_mem) | exact ltm_c5 (by with_reducible assumption) (by k_mem) | exact ltm_d5 (by with_reducible assumption) (by k_mem) | (refine neN ?_; (try dsimp only); omega))
  k_with "k_all" => (first | exact ltm_all (by with_reducible assumption) (by walk_at "mine down") | exact ltm_a1 (by with_reducible assumption) (by walk_at "mine down") | exact ltm_a2 (by with_reducible assumption) (by walk_at "mine down") | exact ltm_a3 (by with_reducible assumption) (by walk_at "mine down") | exact ltm_a4 (by with_reducible assumption) (by walk_at "mine down") | exact ltm_a5 (by with_reducible assumption) (by walk_at "mine down"))
  trivial
theorem fill28 : (hd.heap_1 = hd.heap_1) ∧ (PySem.Challenge.rw_pb0538_01 = PySem.Challenge.rw_pb0538_01) := by k_fill; exact ⟨rfl, rfl⟩
theorem rowsP28_1 : True := by
  k_with "mine cx" => exact ⟨by k_asm, by k_asm, by k_asm, by k_asm, by k_asm, by first | exact rfl | assumption⟩
  k_with "mine sub" => (first | exact fun _ h => h | exact sub_skip (fun _ h => h) | exact sub_skip (sub_skip (fun _ h => h)) | exact sub_skip (sub_skip (sub_skip (fun _ h => h))) | exact sub_skip (sub_skip (sub_skip (sub_skip (fun _ h => h)))) | exact sub_skip (sub_skip (sub_skip (sub_skip (sub_skip (fun _ h => h))))) | exact sub_skip (sub_skip (sub_skip (sub_skip (sub_skip (sub_skip (fun _ h => h)))))) | exact sub_keep (sub_skip (fun _ h => h)) | exact sub_keep (sub_skip (sub_skip (fun _ h => h))) | exact sub_keep (sub_skip (sub_skip (sub_skip (fun _ h => h)))) | exact sub_keep (sub_skip (sub_skip (sub_skip (sub_skip (fun _ h => h))))) | exact sub_keep (sub_skip (sub_skip (sub_skip (sub_skip (sub_skip (fun _ h => h)))))) | exact sub_keep (sub_skip (sub_skip (sub_skip (sub_skip (sub_skip (sub_skip (fun _ h => h))))))))
  k_with "mine priv" => (first | assumption | exact PrivAt.mono (by assumption) (by walk_at "mine sub"))
  k_with "mine dict" => (first | assumption | exact DictAt.mono (by assumption) (by walk_at "mine sub"))
  k_with "mine room" => ((try simp only [depth_under_make, depth_under_kw, depth_in1, depth_deeper, depth_caller, units_in1, units_deeper, Around.mark_units, units_caller]); (try dsimp only [ktrTop]); omega)
  k_with "k_all" => assumption
  k_with "k_mem" => (first | exact List.Mem.head _ | ktr_member | (refine' List.mem_cons_of_mem _ ?_; k_mem))
  k_with "mine fresh" => (first | assumption | exact ltm_all (by with_reducible assumption) (by walk_at "mine down") | exact lt_ne (by assumption) | exact allLt_ne (by k_asm) | exact off1_mem (by k_asm) | (rename _ ∧ _ => o9; first | exact off1_mem o9.2 | exact off1_mem o9.2.2 | exact off1_mem o9.2.2.2 | exact allLt_ne o9.2 | exact allLt_ne o9.2.2 | exact allLt_ne o9.2.2.2))
  k_with "mine pull" => (repeat' (first | exact Pull.head | refine' Pull.tail ?_))
  k_with "mine in" => (first | exact List.Mem.head _ | (refine' List.Mem.tail _ ?_; walk_at "mine in"))
  k_with "mine rows" => (first | exact RowsIn.nil | (refine' RowsIn.cons ⟨_, _, ?zqm⟩ ?_; (case zqm => walk_at "mine in"); walk_at "mine rows"))
  k_with "mine off" => (first | assumption | (refine List.forall_mem_cons.mpr ⟨by k_ne, ?_⟩; walk_at "mine off"))
  k_with "mine fam" => (refine' ⟨_, _, _, _, _, _, _, ?zqm1, ?zqm2, ?zqm3, ⟨_, _, ?zqm4, ?zqm5⟩, _, _, ?zqm6, ?zqm7⟩; (case zqm1 => walk_at "mine in"); (case zqm2 => walk_at "mine in"); (case zqm3 => walk_at "mine in"); (case zqm4 => walk_at "mine in"); (case zqm5 => walk_at "mine rows"); (case zqm6 => walk_at "mine in"); (case zqm7 => walk_at "mine rows"))
  k_with "mine enterC" => (refine' code_defC ?zqk1 ?zqk2 ?zqk3 ?zqk4 ?zqk5 ?zqkA ?zqkF ?zqkK ?zqk6 ?zqk7 ?zqk8 ?zqk9 ?zqkB ?zqkD ?_ ?zqc2 ?zqc3 ?zqc4; (case zqkA => exact rfl); (case zqkF => exact rfl); (case zqkK => assumption); (case zqk1 => k_asm); (case zqk2 => k_asm); (case zqk3 => k_asm); (case zqk4 => k_asm); (case zqk5 => k_asm); (case zqk6 => k_is); (case zqk7 => k_is); (case zqk8 => ktr_room); (case zqk9 => exact BindsTo.of_eq rfl); (case zqkB => exact rfl); (case zqkD => decide +kernel); (case zqc2 => exact rfl); (case zqc3 => exact rfl); (case zqc4 => exact rfl); k_whole; intro g' L' h' tk' cells' FG' F' N' Y' B' X' T' l1; (try k_lt l1); k_cells Y'; (try simp only [List.cons_append, List.nil_append] at N'); (try dsimp only); (try k_fold))
  k_with "mine prB" => (first | exact prB_1 (by assumption) | exact prB_2 (by assumption) | exact prB_0 (by assumption) (by assumption))
  k_with "call builtin:sorted" => (k_here; (with_reducible show wpAny _ _ (call (Value.builtin "sorted") [Value.ref _]) _ _ _); k_dflt (refine sortL (by k_asm) (by k_asm) (by k_mem) (by assumption) (by assumption) ?_); intro D' h' tk' vs' k' F' N' l1 hi'; (try k_lt l1))
  k_with "k_all" => (first | assumption | exact lt_ne1 (by assumption) | exact lt_ne2 (by assumption) | exact lt_ne3 (by assumption) | exact lt_ne4 (by assumption))
  k_with "k_all" => (first | assumption | exact lt_ne (by assumption) | exact lt_ne1 (by assumption) | exact lt_ne2 (by assumption) | exact lt_ne3 (by assumption) | exact lt_ne4 (by assumption) | exact allLt_ne (by k_asm))
  k_with "mine priv" => (first | assumption | exact PrivAt.mono (by assumption) (by walk_at "mine sub") | exact ⟨_, _, _, _, _, _, _, _, _, _, (by k_mem), (by k_mem)⟩)
  k_with "mine dict" => (first | assumption | exact DictAt.mono (by assumption) (by walk_at "mine sub") | exact ⟨_, _, (by k_mem), (by assumption), (by assumption), (by assumption)⟩)
  trivial
theorem lt_ne_trans {D K : Addr} {l : List (Addr × Obj)} (x : ∀ p ∈ l, @LT.lt Nat _ p.1 D) (h : @LT.lt Nat _ D K) : ∀ p ∈ l, p.1 ≠ K := fun p q => Nat.ne_of_lt (Nat.lt_trans (x p q) h)
theorem rowsP28_2 : True := by
  k_with "k_all" => exact lt_ne_trans (by assumption) (by omega)
  k_with "mine ne" => (first | assumption | k_ne)
  k_with "mine few" => (first | assumption | exact Nat.le_of_ble_eq_true rfl)
  k_with "mine own" => (first | assumption | (intro x9 hx9; (try (have q9 := Option.some.inj hx9; subst q9; exact ⟨_, rfl⟩)); (repeat' (rcases List.mem_cons.mp hx9 with hx9 | hx9)) <;> first | exact absurd hx9 List.not_mem_nil | (subst hx9; exact ⟨_, rfl⟩)))
  k_with "call ref" => (k_here; (with_reducible show wpAny _ _ (call (Value.ref 79) _) _ _ _); k_dflt (refine' c_add_primaryU ?zqcx ?zqU1 ?zqU2 ?zqd ?zqu ?zqp ?zqn ?zql1 ?zql2 ?zqdK ?zqfK ?zqz1 ?zqdP ?zqfP ?zqz2 _ _ ?zqe1 ?zqe2 ?_; (case zqcx => walk_at "mine cx"); (case zqp => walk_at "mine priv"); (case zqU1 => k_updF); (case zqU2 => (intro _; (try dsimp only); k_updF)); (case zqd => walk_at "mine room"); (case zqu => walk_at "mine room"); (case zqn => walk_at "mine ne"); (case zql1 => assumption); (case zql2 => assumption); (case zqdK => assumption); (case zqfK => assumption); (case zqz1 => walk_at "mine few"); (case zqdP => assumption); (case zqfP => assumption); (case zqz2 => walk_at "mine few"); (case zqe1 => first | assumption | rfl); (case zqe2 => first | assumption | rfl)); intro h' tk' oK' kvsK' oP' kvsP' F' N' dK' fK' dP' fP'; (try dsimp only at N'))
  k_with "call ref" => (k_here; (with_reducible show wpAny _ _ (call (Value.ref 84) [_, _, _, Value.str (Str.ofString "isolated") _]) _ _ _); k_dflt (refine' c_add_isoU ?zqcx ?zqU1 ?zqU2 ?zqd ?zqu ?zqp ?zqn ?zql1 ?zql2 ?zqdK ?zqfK ?zqz1 ?zqdP ?zqfP ?zqz2 _ _ _ _ _ ?zqo ?zqs ?zqe1 ?zqe2 ?zqe3 ?_; (case zqcx => walk_at "mine cx"); (case zqp => walk_at "mine priv"); (case zqU1 => k_updF); (case zqU2 => (intro _; (try dsimp only); k_updF)); (case zqd => walk_at "mine room"); (case zqu => walk_at "mine room"); (case zqn => walk_at "mine ne"); (case zql1 => assumption); (case zql2 => assumption); (case zqdK => assumption); (case zqfK => assumption); (case zqz1 => walk_at "mine few"); (case zqdP => assumption); (case zqfP => assumption); (case zqz2 => walk_at "mine few"); (case zqo => walk_at "mine own"); (case zqs => first | assumption | rfl); (case zqe1 => first | assumption | rfl); (case zqe2 => first | assumption | rfl); (case zqe3 => first | assumption | rfl)); intro h' tk' oK' kvsK' oP' kvsP' F' N' dK' fK' dP' fP'; (try dsimp only at N'))
  k_with "call ref" => (k_here; (with_reducible show wpAny _ _ (call (Value.ref 98) _) _ _ _); k_dflt (refine' c_set_hostU ?zqcx ?zqU ?zqd ?zqu ?zqp ?zqK ?zqM ?zqn1 ?zqn2 ?zql ?zqdH ?zqfH ?zqz _ _ _ _ ?zqe1 ?zqe2 ?zqe3 ?_; (case zqcx => walk_at "mine cx"); (case zqp => walk_at "mine priv"); (case zqU => k_updF); (case zqd => walk_at "mine room"); (case zqu => walk_at "mine room"); (case zqK => walk_at "mine dict"); (case zqM => walk_at "mine dict"); (case zqn1 => walk_at "mine ne"); (case zqn2 => walk_at "mine ne"); (case zql => assumption); (case zqdH => assumption); (case zqfH => assumption); (case zqz => walk_at "mine few"); (case zqe1 => first | assumption | rfl); (case zqe2 => first | assumption | rfl); (case zqe3 => first | assumption | exact Or.inl rfl | exact Or.inr rfl)); intro h' tk' oH' kvsH' F' N' dH' fH'; (try dsimp only at N'))
  k_with "call ref" => (k_here; (with_reducible show wpAny _ _ (call (Value.ref 159) _) _ _ _); k_dflt (refine' c_lets_is ?zqcx ?zqd ?zqu ?zqp ?zqK ?zqP ?zqH ?zqM _ _ _ _ ?zqo ?zqe ?_; (case zqcx => walk_at "mine cx"); (case zqd => walk_at "mine room"); (case zqu => walk_at "mine room"); (case zqp => walk_at "mine priv"); (case zqK => walk_at "mine dict"); (case zqP => walk_at "mine dict"); (case zqH => walk_at "mine dict"); (case zqM => walk_at "mine dict"); (case zqo => assumption); (case zqe => assumption)); intro r' h' tk' F' N' hr'; subst hr'; (try dsimp only))
  k_with "call ref" => (k_here; (with_reducible show wpAny _ _ (call (Value.ref 162) _) _ _ _); k_dflt (refine' c_new ?zqcx ?zqd ?zqu ?_; (case zqcx => walk_at "mine cx"); (case zqd => walk_at "mine room"); (case zqu => walk_at "mine room")); intro P' dx' kd' pd' od' md' o1' o2' o3' o4' t1' t2' t3' t4' i1' i2' i3' i4' n' h' tk' F' N' d1' d2' d3' d4' lo1' lo2' lo3' lo4' l1' l2' l3' l4' l5' l6'; have f1' : FlatPairs PyData.int [] (IS []) := .nil; have f2' : FlatPairs PyData.int [] (II []) := .nil)
  trivial
section
variable {w : World} {mean : ExcName → Option Value} {mg mb : Str → Option Value} {dp un : Nat} {gd : Option (List Code)} {cn : Str} {cs : Scope} {a : Addr} {ccd : Value} {cl : List (Str × Addr)} {outer : List Env} {A₀ : Around} {base h₀ : Heap} {L : Addr} {m : Str → Option Value} {s : Shared} {news : List (Addr × Obj)} {Q E : Value → Shared → Prop}
  {P kd pd od md : Addr} {DK : List (Int × Str)} {DP DH DM : List (Int × Int)}
abbrev tfK : List (Int × Str) := ([] ++ [((100 : Int), ("primary" : Str))]) ++ [((101 : Int), ("isolated" : Str))]
abbrev tfP : List (Int × Int) := ([] ++ [((100 : Int), (100 : Int))]) ++ [((101 : Int), (100 : Int))]
abbrev tfH : List (Int × Int) := [] ++ [((1 : Int), (101 : Int))]
theorem c_told_first (cx : Cx w mean mg mb outer A₀ base h₀ L m cs s.heap news) (hd : dp + 6 ≤ 500) (hu : un + 60 ≤ 5000)
    (ret : Ret h₀ L m s Q news (· = .bool true)) :
    wpAny (model PR w) (ktrTop dp un gd cn cs L a ccd cl outer) (call (.ref 256) []) Q E s := by
  obtain ⟨B, F, X, N, T, hk⟩ := cx
  have b0 : ∀ x, tfH.lookup 1 = some x → ∃ y, tfP.lookup x = some y := by
    intro x h
    have e : x = 101 := by simpa [tfH] using h.symm
    subst e
    exact ⟨100, by decide⟩
  have b1 : letsV tfK tfP tfH [] 1 101 = false := by decide
  have b2 : letsV tfK tfP tfH [] 1 100 = true := by decide
  refine wpAny_call ?_
  k_dflt ktr_enter
  k_steps
  all_goals exact ret _ _ _ (by k_asm) (newsSub (by k_asm) (by walk_at "mine sub")) rfl
end
end Mine
namespace Mine
theorem rowsP34_0 : True := by
  k_with_none
  k_with "mine down" => (first | exact fun _ h => h | (refine dn ?_; walk_at "mine down"))
  k_with "k_ne" => (first | with_reducible assumption | exact Ne.symm (by with_reducible assumption) | exact ltm_ne (by with_reducible assumption) (by k_mem) | exact ltm_en (by with_reducible assumption) (by k_mem) | exact Nat.ne_of_lt (by with_reducible assumption) | exact Nat.ne_of_gt (by with_reducible assumption) | exact ltm_c1 (by with_reducible assumption) (by k_mem) | exact ltm_d1 (by with_reducible assumption) (by k_mem) | exact ltm_c2 (by with_reducible assumption) (by k_mem) | exact ltm_d2 (by with_reducible assumption) (by k_mem) | exact ltm_c3 (by with_reducible assumption) (by k_mem) | exact ltm_d3 (by with_reducible assumption) (by k_mem) | exact ltm_c4 (by with_reducible assumption) (by k_mem) | exact ltm_d4 (by with_reducible assumption) (by k_mem) | exact ltm_c5 (by with_reducible assumption) (by k_mem) | exact ltm_d5 (by with_reducible assumption) (by k_mem) | (refine neN ?_; (try dsimp only); omega))
  k_with "k_all" => (first | exact ltm_all (by with_reducible assumption) (by walk_at "mine down") | exact ltm_a1 (by with_reducible assumption) (by walk_at "mine down") | exact ltm_a2 (by with_reducible assumption) (by walk_at "mine down") | exact ltm_a3 (by with_reducible assumption) (by walk_at "mine down") | exact ltm_a4 (by with_reducible assumption) (by walk_at "mine down") | exact ltm_a5 (by with_reducible assumption) (by walk_at "mine down"))
  trivial
/-- the two tables after the families were built, the VLANs, the secondary ones -/
def kindsOf (R1 R2 : List (Int × Str)) : List (Int × Str) := (([(100, ("primary" : Str))] ++ R1) ++ [(200, ("primary" : Str))]) ++ R2
def primsOf (R1 R2 : List (Int × Str)) : List (Int × Int) := (([((100 : Int), (100 : Int))] ++ R1.map fun p => (p.1, (100 : Int))) ++ [((200 : Int), (200 : Int))]) ++ R2.map fun p => (p.1, (200 : Int))
def secsOf (R1 R2 : List (Int × Str)) : List Int := R1.map Prod.fst ++ R2.map Prod.fst
def vlansOf (R1 R2 : List (Int × Str)) : List Int := [50] ++ (([100] ++ R1.map Prod.fst) ++ ([200] ++ R2.map Prod.fst))
def hostsOf (PT : List (Int × Told)) : List (Int × Int) := PT.filterMap fun p => match p.2 with | .host v => some (p.1, v) | _ => none
def promOf (PT : List (Int × Told)) : List (Int × Int) := PT.filterMap fun p => match p.2 with | .heard v => some (p.1, v) | _ => none
def GoodT (R1 R2 : List (Int × Str)) : Told → Prop
  | .host v => v ∈ secsOf R1 R2
  | .heard v => v ∈ ([100, 200] : List Int)
  | .other => True
theorem f_kind : ∀ R1 ∈ R1s, ∀ R2 ∈ R2s, ∀ v ∈ vlansOf R1 R2, ((kindsOf R1 R2).lookup v).getD "plain" = kindF R1 R2 v := by decide +kernel
theorem f_vfl : ∀ R1 ∈ R1s, ∀ R2 ∈ R2s, ∀ v ∈ vlansOf R1 R2, vflV (primsOf R1 R2) v = primF R1 R2 v := by decide +kernel
theorem f_fam1 : ∀ R1 ∈ R1s, ∀ R2 ∈ R2s, ∀ v ∈ vlansOf R1 R2, primF R1 R2 v = 50 → famF (kindsOf R1 R2) (primsOf R1 R2) v = [v] := by decide +kernel
theorem f_fam2 : ∀ R1 ∈ R1s, ∀ R2 ∈ R2s, ∀ v ∈ vlansOf R1 R2, primF R1 R2 v ≠ 50 → famF (kindsOf R1 R2) (primsOf R1 R2) v = isort ([primF R1 R2 v] ++ ((if 100 = primF R1 R2 v then R1.map Prod.fst else []) ++ (if 200 = primF R1 R2 v then R2.map Prod.fst else []))) := by decide +kernel
theorem f_lets_h : ∀ R1 ∈ R1s, ∀ R2 ∈ R2s, ∀ v ∈ vlansOf R1 R2, ∀ x ∈ secsOf R1 R2, letsV (kindsOf R1 R2) (primsOf R1 R2) [(1, x)] [] 1 v = hearsF R1 R2 v (.host x) := by decide +kernel
theorem f_lets_p : ∀ R1 ∈ R1s, ∀ R2 ∈ R2s, ∀ v ∈ vlansOf R1 R2, ∀ x ∈ ([100, 200] : List Int), letsV (kindsOf R1 R2) (primsOf R1 R2) [] [(1, x)] 1 v = hearsF R1 R2 v (.heard x) := by decide +kernel
theorem f_out_h : ∀ R1 ∈ R1s, ∀ R2 ∈ R2s, ∀ v ∈ vlansOf R1 R2, ∀ x ∈ secsOf R1 R2, outV (primsOf R1 R2) [(1, x)] [] 1 v = outF R1 R2 v (.host x) := by decide +kernel
theorem f_out_p : ∀ R1 ∈ R1s, ∀ R2 ∈ R2s, ∀ v ∈ vlansOf R1 R2, ∀ x ∈ ([100, 200] : List Int), outV (primsOf R1 R2) [] [(1, x)] 1 v = outF R1 R2 v (.heard x) := by decide +kernel
theorem f_own : ∀ R1 ∈ R1s, ∀ R2 ∈ R2s, ∀ x ∈ (kindsOf R1 R2).map Prod.fst, ((primsOf R1 R2).lookup x).isSome = true := by decide +kernel
theorem f_keys : ∀ R1 ∈ R1s, ∀ R2 ∈ R2s, (kindsOf R1 R2).map Prod.fst = (primsOf R1 R2).map Prod.fst := by decide +kernel
theorem f_len : ∀ R1 ∈ R1s, ∀ R2 ∈ R2s, (kindsOf R1 R2).length < 63 ∧ R1.length ≤ 10 ∧ R2.length ≤ 10 ∧ 0 < (secsOf R1 R2).length ∧ (secsOf R1 R2).length < 64 := by decide +kernel
theorem f_secs : ∀ R1 ∈ R1s, ∀ R2 ∈ R2s, ∀ x ∈ secsOf R1 R2, ((primsOf R1 R2).lookup x).isSome = true := by decide +kernel
theorem f_hosts : ∀ R1 ∈ R1s, ∀ R2 ∈ R2s, ∀ x ∈ secsOf R1 R2, ((kindsOf R1 R2).lookup x).getD "plain" = "isolated" ∨ ((kindsOf R1 R2).lookup x).getD "plain" = "community" := by decide +kernel
theorem f_proms : ∀ R1 ∈ R1s, ∀ R2 ∈ R2s, ∀ x ∈ ([100, 200] : List Int), ((kindsOf R1 R2).lookup x).getD "plain" = "primary" := by decide +kernel
theorem f_r0 : ∀ R1 ∈ R1s, ∀ R2 ∈ R2s, ∀ x ∈ ([100, 101, 200] : List Int), ((kindsOf R1 R2).lookup x).isSome = true := by decide +kernel
theorem f_r1 : ∀ R1 ∈ R1s, ∀ R2 ∈ R2s, (kindsOf R1 R2).lookup 300 = none := by decide +kernel
theorem f_r3 : ∀ R1 ∈ R1s, ∀ R2 ∈ R2s, (kindsOf R1 R2).lookup 101 = some "isolated" ∧ ((kindsOf R1 R2).lookup 101).getD "plain" = "isolated" ∧ ((kindsOf R1 R2).lookup 100).getD "plain" = "primary" ∧ ((kindsOf R1 R2).lookup 200).getD "plain" = "primary" ∧ ((kindsOf R1 R2).lookup 50).getD "plain" = "plain" := by decide +kernel
theorem f_sec : ∀ R1 ∈ R1s, ∀ R2 ∈ R2s, secF (kindsOf R1 R2) (primsOf R1 R2) 100 = [101] ∨ (secF (kindsOf R1 R2) (primsOf R1 R2) 100 = [101, 102] ∧ (kindsOf R1 R2).lookup 102 = some "community") ∨ (secF (kindsOf R1 R2) (primsOf R1 R2) 100 = [101, 102, 103] ∧ (kindsOf R1 R2).lookup 102 = some "community" ∧ (kindsOf R1 R2).lookup 103 = some "community") := by decide +kernel
theorem hosts_none {k : Int} : ∀ {r : List (Int × Told)}, (∀ q ∈ r, q.1 ≠ k) → (hostsOf r).lookup k = none ∧ (promOf r).lookup k = none
  | [], _ => ⟨rfl, rfl⟩
  | (k', τ) :: r, h => by
    have ih := hosts_none (r := r) fun q hq => h q (.tail _ hq)
    have hb : (k == k') = false := beq_eq_false_iff_ne.mpr (Ne.symm (h _ (.head _)))
    cases τ with
    | host v => exact ⟨by show List.lookup k ((k', v) :: hostsOf r) = none; rw [List.lookup_cons, hb]; exact ih.1, ih.2⟩
    | heard v => exact ⟨ih.1, by show List.lookup k ((k', v) :: promOf r) = none; rw [List.lookup_cons, hb]; exact ih.2⟩
    | other => exact ih
def hostV : Told → Option Int
  | .host v => some v
  | _ => none
def heardV : Told → Option Int
  | .heard v => some v
  | _ => none
theorem hosts_at {k : Int} {τ : Told} : ∀ {PT : List (Int × Told)}, (PT.map Prod.fst).Nodup → (k, τ) ∈ PT → (hostsOf PT).lookup k = hostV τ ∧ (promOf PT).lookup k = heardV τ
  | (k', τ') :: r, nd, h => by
    rw [List.map_cons, List.nodup_cons] at nd
    have out : ∀ q ∈ r, q.1 ≠ k' := fun q hq e => nd.1 (List.mem_map.mpr ⟨q, hq, e⟩)
    rcases List.mem_cons.mp h with e | h
    · cases e
      have n := hosts_none out
      have hb : (k == k) = true := beq_self_eq_true k
      cases τ with
      | host v => exact ⟨by show List.lookup k ((k, v) :: hostsOf r) = some v; rw [List.lookup_cons, hb], n.2⟩
      | heard v => exact ⟨n.1, by show List.lookup k ((k, v) :: promOf r) = some v; rw [List.lookup_cons, hb]⟩
      | other => exact n
    · have hb : (k == k') = false := beq_eq_false_iff_ne.mpr (out _ h)
      have ih := hosts_at nd.2 h
      cases τ' with
      | host v => exact ⟨by show List.lookup k ((k', v) :: hostsOf r) = _; rw [List.lookup_cons, hb]; exact ih.1, ih.2⟩
      | heard v => exact ⟨ih.1, by show List.lookup k ((k', v) :: promOf r) = _; rw [List.lookup_cons, hb]; exact ih.2⟩
      | other => exact ih
theorem hosts_in {k x : Int} : ∀ {PT : List (Int × Told)}, (hostsOf PT).lookup k = some x → ∃ k', (k', Told.host x) ∈ PT
  | [], h => by cases h
  | (k', τ) :: r, h => by
    cases τ with
    | host v =>
      have h' : List.lookup k ((k', v) :: hostsOf r) = some x := h
      rw [List.lookup_cons] at h'
      split at h'
      · cases h'; exact ⟨k', .head _⟩
      · obtain ⟨z, hz⟩ := hosts_in h'; exact ⟨z, .tail _ hz⟩
    | heard v => obtain ⟨z, hz⟩ := hosts_in (PT := r) h; exact ⟨z, .tail _ hz⟩
    | other => obtain ⟨z, hz⟩ := hosts_in (PT := r) h; exact ⟨z, .tail _ hz⟩
/-- the law's answers at one VLAN, ports and all -/
theorem f_vok {R1 R2 : List (Int × Str)} (h1 : R1 ∈ R1s) (h2 : R2 ∈ R2s) {PT : List (Int × Told)} (nd : (PT.map Prod.fst).Nodup) (good : ∀ k τ, (k, τ) ∈ PT → GoodT R1 R2 τ) {v : Int} (hv : v ∈ vlansOf R1 R2) :
    VOk (kindsOf R1 R2) (primsOf R1 R2) (hostsOf PT) (promOf PT) R1 R2 PT v where
  kind := f_kind R1 h1 R2 h2 v hv
  vfl := f_vfl R1 h1 R2 h2 v hv
  fam1 := f_fam1 R1 h1 R2 h2 v hv
  fam2 := f_fam2 R1 h1 R2 h2 v hv
  own := fun k τ h => by
    obtain ⟨a, b⟩ := hosts_at nd h
    rw [a, b]
    cases τ <;> rfl
  lets := fun k τ h => by
    obtain ⟨a, b⟩ := hosts_at nd h
    have g := good k τ h
    unfold letsV
    rw [a, b]
    cases τ with
    | host x => exact f_lets_h R1 h1 R2 h2 v hv x g
    | heard x => exact f_lets_p R1 h1 R2 h2 v hv x g
    | other => rfl
  out := fun k τ h => by
    obtain ⟨a, b⟩ := hosts_at nd h
    have g := good k τ h
    unfold outV outM
    rw [a, b]
    cases τ with
    | host x => exact f_out_h R1 h1 R2 h2 v hv x g
    | heard x => exact f_out_p R1 h1 R2 h2 v hv x g
    | other => rfl
end Mine
namespace Mine
theorem rowsP29_0 : True := by
  k_with_none
  k_with "mine down" => (first | exact fun _ h => h | (refine dn ?_; walk_at "mine down"))
  k_with "k_ne" => (first | with_reducible assumption | exact Ne.symm (by with_reducible assumption) | exact ltm_ne (by with_reducible assumption) (by k_mem) | exact ltm_en (by with_reducible assumption) (by k_mem) | exact Nat.ne_of_lt (by with_reducible assumption) | exact Nat.ne_of_gt (by with_reducible assumption) | exact ltm_c1 (by with_reducible assumption) (by k_mem) | exact ltm_d1 (by with_reducible assumption) (by k_mem) | exact ltm_c2 (by with_reducible assumption) (by k_mem) | exact ltm_d2 (by with_reducible assumption) (by k_mem) | exact ltm_c3 (by with_reducible assumption) (by k_mem) | exact ltm_d3 (by with_reducible assumption) (by k_mem) | exact ltm_c4 (by with_reducible assumption) (by k_mem) | exact ltm_d4 (by with_reducible assumption) (by k_mem) | exact ltm_c5 (by with_reducible assumption) (by k_mem) | exact ltm_d5 (by with_reducible assumption) (by k_mem) | (refine neN ?_; (try dsimp only); omega))
  k_with "k_all" => (first | exact ltm_all (by with_reducible assumption) (by walk_at "mine down") | exact ltm_a1 (by with_reducible assumption) (by walk_at "mine down") | exact ltm_a2 (by with_reducible assumption) (by walk_at "mine down") | exact ltm_a3 (by with_reducible assumption) (by walk_at "mine down") | exact ltm_a4 (by with_reducible assumption) (by walk_at "mine down") | exact ltm_a5 (by with_reducible assumption) (by walk_at "mine down"))
  trivial
section
variable {prog : Program} {w : World} {A₀ A : Around} {s : Shared} {base h₀ g₀ : Heap} {outer : List Env} {L : Addr} {m : Str → Option Value} {env : Env} {news : List (Addr × Obj)} {K : Frag} {p : Program} {loose : List Str} {mean : ExcName → Option Value} {mg mb : Str → Option Value}
    {R : Result → Shared → Prop} {name qual : Str} {params : Arguments} {body : List Stmt} {scope : Scope} {dV kV doc pm cdv ct oc : Value} {an od : Option Addr} {osl : Array (Option Value)} {f : Addr} {args : Args} {binds : List (Str × Value)}
theorem kts_memE {b : Addr} (hf : env.frame = some L) (hm : b ∈ (env :: outer).filterMap (·.frame)) : b = L ∨ b ∈ outer.filterMap (·.frame) := by
  obtain ⟨env', he, hf'⟩ := List.mem_filterMap.mp hm
  rcases List.mem_cons.mp he with rfl | he
  · exact .inl (Option.some.inj (hf'.symm.trans hf))
  · exact .inr (List.mem_filterMap.mpr ⟨env', he, hf'⟩)
theorem enterX (B : Below A₀ base outer h₀) (F : Fr h₀ L s.heap m) (N : News h₀ L s.heap news) (hA : A.frames = some (env :: outer)) (hf : env.frame = some L) (hke : env.scope.kind = .function) :
    ∃ oL es ep, (hideAll s.heap (news.map (·.1))).get? L = some oL ∧ oL.data = .dict es ep ∧ (∀ h', h'.get? L = some oL → Heap.Ns h' L m) ∧ (∀ (sl : Array (Option Value)) h', h'.get? L = some { oL with slots := sl } → Heap.Ns h' L m) ∧
      h₀.StaysIn (hideAll s.heap (news.map (·.1))) ∧ Below A base (env :: outer) (hideAll s.heap (news.map (·.1))) := by
  obtain ⟨FG, BG, st, _⟩ := groundX (R := fun _ _ => True) B F N hA hf hke
  obtain ⟨oL, es, ep, hL, hLd, hLk, hLf⟩ := FG.ns
  exact ⟨oL, es, ep, hL, hLd, fun h' e => ⟨oL, es, ep, e, hLd, hLk, hLf⟩, fun sl h' e => ⟨_, es, ep, e, hLd, hLk, hLf⟩, st, BG⟩
/-- a call of a plain function in whose run a raise is caught: the ground may turn -/
theorem code_SX (B : Below A₀ base outer h₀) (F : Fr h₀ L s.heap m) (X₀ : K.In h₀) (N : News h₀ L s.heap news) (T : Top p loose mean mg mb h₀) (XB : K.In base) (TB : Top p loose mean mg mb base) (D : KtsDicts (outer.filterMap (·.frame)) h₀)
    (hA : A.frames = some (env :: outer)) (hf : env.frame = some L) (hke : env.scope.kind = .function)
    (ho : K.lookup f = some ⟨oc, od, .func (fnOf name qual params body scope dV kV doc pm an cdv ct), osl⟩) (hcd : codeIn K cdv qual = true) (hroom : A.depth < recursionLimit)
    (hbind : BindsTo s (fnOf name qual params body scope dV kV doc pm an cdv ct) args binds) (hloc : ∀ y ∈ binds, scope.names.lookup y.1 = some .local)
    (h : ∀ g L' h₁, Fr h₀ L g m → Fr g L' h₁ (fun y => binds.reverse.lookup y) → News g L' h₁ news → Below A base (env :: outer) g → K.In g → Top p loose mean mg mb g → KtsDicts ((env :: outer).filterMap (·.frame)) g →
      wpAny (model prog w) (A.deeper (envOf qual scope L' f cdv)) (execs body (envOf qual scope L' f cdv))
        (fun fl s' => LeaveS ((env :: outer).filterMap (·.frame)) A₀ base outer K p loose mean mg mb h₀ h₀ L m g R (match fl with | .ret v => v | _ => .none) s')
        (fun e s' => wpAny (model prog w) (A.deeper (envOf qual scope L' f cdv)) (leaving (envOf qual scope L' f cdv) e) (fun _ s'' => R (.error e) s'') (fun e' s'' => R (.error e') s'') s')
        { s with heap := h₁, toks := s.toks + binds.length })
    (hco : scope.isCoroutine = false) (hgen : scope.isGenerator = false) (hk : scope.kind = .function)
    (hcell : ∀ x ∈ scope.names, x.2 ≠ .cell) : codeAny (model prog w) A (.call (.ref f) args) R s := by
  have X := X₀.keeps F.keep
  refine codeAny_call_def (fd := fnOf name qual params body scope dV kV doc pm an cdv ct) (body := body) (binds := binds) hroom (X _ _ ho) rfl (T.nolimit.keeps F.keep) (codeRec_of X hcd) rfl hbind hcell hloc (fun h₁ hns hk₁ => ?_) hco hgen hk
  obtain ⟨oL, es, ep, hLg, hLd, hN, hNs, st, B₂⟩ := enterX B F N hA hf hke
  refine wpAny_mono (h _ s.heap.objs.size h₁ ⟨hN _ hLg, st, F.above⟩ ⟨hns, fun b o e => hk₁ b o (of_hideAll _ e), Nat.le_of_eq (hideAll_size _ _)⟩
    (fun p hp => ⟨hk₁ _ _ (N p hp).1, Nat.ne_of_lt (Heap.lt_size (N p hp).1), hideAll_none _ (List.mem_map_of_mem hp)⟩) B₂ (X₀.keeps st) (T.keeps st) (fun b hb => by
      rcases kts_memE hf hb with rfl | hb
      · exact ⟨oL, es, ep, hLg, hLd⟩
      · obtain ⟨o, es', n', ho', hd'⟩ := D b hb
        exact ⟨o, es', n', st b o ho', hd'⟩)) (fun fl s' hl => ?_) fun _ _ y => y
  have nL₀ : h₀.get? L = none := kts_self F
  rcases hl with ⟨L', m', news', F', N', k⟩ | ⟨g', L', m', news', T', F', N', k⟩
  · refine k ⟨hN _ (F'.keep _ _ hLg), fun b o e => F'.keep b o (st b o e), F.above⟩ fun p hp => ⟨(N' p hp).1, fun q => ?_, ?_⟩
    · have := (N' p hp).2.2; rw [q, hLg] at this; cases this
    · cases q : h₀.get? p.1 with
      | none => rfl
      | some o => have := (N' p hp).2.2; rw [st _ _ q] at this; cases this
  obtain ⟨sl, hs⟩ := T'.up hLg
  obtain ⟨T₁, S₁⟩ := kts_turn_at (h := s'.heap) (fs := outer.filterMap (·.frame)) (g := h₀)
    (fun b hb => by
      obtain ⟨_, o, ho', _⟩ := B.frames.mem hb
      exact ⟨o, ho'⟩)
    (fun b o e nmem => F'.keep b o (T'.other b o (st b o e) (fun q => by
      rcases kts_memE hf q with z | z
      · rw [z, nL₀] at e
        cases e
      · exact nmem z)))
    (fun b o e hm => by
      obtain ⟨sl', hs'⟩ := T'.up (st b o e)
      exact ⟨sl', F'.keep _ _ hs'⟩)
  have B₃ : Below A₀ base outer (ktsHeap s'.heap (outer.filterMap (·.frame)) h₀) := ⟨B.stack, fun b o e => T₁.other b o (B.stays b o e) (fun hm => by
    rw [(B.frames.mem hm).1] at e
    cases e), B.frames.of_keeps fun b o e _ => by
    obtain ⟨sl', hs'⟩ := T₁.up e
    exact ⟨_, hs', rfl⟩⟩
  refine k _ T₁ ⟨hNs sl _ (F'.keep _ _ hs), S₁, by rw [T₁.size]; exact F.above⟩ (fun p hp => ⟨(N' p hp).1, fun q => ?_, ?_⟩) B₃ (XB.keeps B₃.stays) (TB.keeps B₃.stays) (D.turn T₁)
  · have := (N' p hp).2.2; rw [q, hs] at this; cases this
  · refine T₁.none_ _ ?_
    cases q : h₀.get? p.1 with
    | none => rfl
    | some o =>
      obtain ⟨sl', hs'⟩ := T'.up (st _ _ q)
      have := (N' p hp).2.2
      rw [hs'] at this
      cases this
/-- a call out of the lowest frame of a function with cells, in whose run a raise is caught -/
theorem code_SC0 (B : Below A₀ base [] h₀) (F : Fr h₀ L s.heap m) (X₀ : K.In h₀) (N : News h₀ L s.heap news) (T : Top p loose mean mg mb h₀)
    (hA : A.frames = some [env]) (hf : env.frame = some L) (hke : env.scope.kind = .function)
    (ho : K.lookup f = some ⟨oc, od, .func (fnOf name qual params body scope dV kV doc pm an cdv ct), osl⟩) (hcd : codeIn K cdv qual = true) (hroom : A.depth < recursionLimit)
    (hbind : BindsTo s (fnOf name qual params body scope dV kV doc pm an cdv ct) args binds) (hkind0 : (binds.all fun y => scope.names.lookup y.1 == some .local || scope.names.lookup y.1 == some .cell) = true)
    (hnd : ((cellsFrom 0 scope.names []).map (·.1)).Nodup)
    (h : ∀ g L' h₁ tk cells, Fr h₀ L g m → Fr g L' h₁ (bindL (envOfC qual scope L' f cdv).kindOf binds fun _ => none) → News g L' h₁ (cells ++ news) →
      CellsAre (bindC (envOfC qual scope L' f cdv).kindOf binds fun _ => none) (cellsFrom (L' + 1) scope.names []) cells → Below A base [env] g → K.In g → Top p loose mean mg mb g → KtsDicts ([env].filterMap (·.frame)) g → (∀ p ∈ news, p.1 < L') →
      wpAny (model prog w) (A.deeper (envOfC qual scope L' f cdv)) (execs body (envOfC qual scope L' f cdv))
        (fun fl s' => LeaveS0 ([env].filterMap (·.frame)) h₀ L m g R (match fl with | .ret v => v | _ => .none) s')
        (fun e s' => wpAny (model prog w) (A.deeper (envOfC qual scope L' f cdv)) (leaving (envOfC qual scope L' f cdv) e) (fun _ s'' => R (.error e) s'') (fun e' s'' => R (.error e') s'') s')
        { s with heap := h₁, toks := tk })
    (hco : scope.isCoroutine = false) (hgen : scope.isGenerator = false) (hk : scope.kind = .function) : codeAny (model prog w) A (.call (.ref f) args) R s := by
  have hkind := kindsX hkind0
  have X := X₀.keeps F.keep
  obtain ⟨oL, es, ep, hLg, hLd, hN, hNs, st, B₂⟩ := enterX B F N hA hf hke
  refine codeAny_call_function hroom (X _ _ ho) rfl hco hgen rfl (codeRec_of X hcd) (hbind _ _ _ _ ?_)
  refine wpAny_newFunctionEnv_cells hk (hkind _) fun env' he s' x => ?_
  subst he
  refine ⟨(T.nolimit.keeps F.keep).keeps x.toInCall.keep, codeAny_func ?_⟩
  obtain ⟨h₁, tk, rfl, _⟩ := x.done
  have hk₁ := x.toInCall.keep
  obtain ⟨cells, NC, Y⟩ := Cl.news (h₀ := s.heap) (Nat.le_refl _) fun n c hm => ⟨x.cell n c (lookup_of_mem_nodup (cellsFrom_names scope.names 0 (s.heap.objs.size + 1) [] [] rfl ▸ hnd) hm), x.above n c hm⟩
  refine wpAny_mono (h _ s.heap.objs.size h₁ tk cells ⟨hN _ hLg, st, F.above⟩ ⟨x.toInCall.ns, fun b o e => hk₁ b o (of_hideAll _ e), Nat.le_of_eq (hideAll_size _ _)⟩ (fun p hp => ?_) Y B₂ (X₀.keeps st) (T.keeps st) (fun b hb => by
      rcases kts_memE hf hb with rfl | z
      · exact ⟨oL, es, ep, hLg, hLd⟩
      · simp at z) (fun p hp => Heap.lt_size (N p hp).1)) (fun fl s' hl => ?_) fun _ _ y => y
  · rcases List.mem_append.mp hp with hp | hp
    · refine ⟨(NC p hp).1, (NC p hp).2.1, ?_⟩
      cases q : (hideAll s.heap (news.map (·.1))).get? p.1 with
      | none => rfl
      | some o => have := of_hideAll _ q; rw [(NC p hp).2.2] at this; cases this
    · exact ⟨hk₁ _ _ (N p hp).1, Nat.ne_of_lt (Heap.lt_size (N p hp).1), hideAll_none _ (List.mem_map_of_mem hp)⟩
  · obtain ⟨g', L', m', news', T', F', N', k⟩ := hl
    have nL₀ : h₀.get? L = none := kts_self F
    obtain ⟨sl, hs⟩ := T'.up hLg
    refine k ⟨hNs sl _ (F'.keep _ _ hs), fun b o e => F'.keep b o (T'.other b o (st b o e) (fun q => by
      rcases kts_memE hf q with z | z
      · rw [z, nL₀] at e
        cases e
      · simp at z)), F.above⟩ fun p hp => ⟨(N' p hp).1, fun q => ?_, ?_⟩
    · have := (N' p hp).2.2; rw [q, hs] at this; cases this
    · cases q : h₀.get? p.1 with
      | none => rfl
      | some o =>
        obtain ⟨sl', hs'⟩ := T'.up (st _ _ q)
        have := (N' p hp).2.2
        rw [hs'] at this
        cases this
end
end Mine
namespace Mine
theorem rowsP30_0 : True := by
  k_with_none
  k_with "mine down" => (first | exact fun _ h => h | (refine dn ?_; walk_at "mine down"))
  k_with "k_ne" => (first | with_reducible assumption | exact Ne.symm (by with_reducible assumption) | exact ltm_ne (by with_reducible assumption) (by k_mem) | exact ltm_en (by with_reducible assumption) (by k_mem) | exact Nat.ne_of_lt (by with_reducible assumption) | exact Nat.ne_of_gt (by with_reducible assumption) | exact ltm_c1 (by with_reducible assumption) (by k_mem) | exact ltm_d1 (by with_reducible assumption) (by k_mem) | exact ltm_c2 (by with_reducible assumption) (by k_mem) | exact ltm_d2 (by with_reducible assumption) (by k_mem) | exact ltm_c3 (by with_reducible assumption) (by k_mem) | exact ltm_d3 (by with_reducible assumption) (by k_mem) | exact ltm_c4 (by with_reducible assumption) (by k_mem) | exact ltm_d4 (by with_reducible assumption) (by k_mem) | exact ltm_c5 (by with_reducible assumption) (by k_mem) | exact ltm_d5 (by with_reducible assumption) (by k_mem) | (refine neN ?_; (try dsimp only); omega))
  k_with "k_all" => (first | exact ltm_all (by with_reducible assumption) (by walk_at "mine down") | exact ltm_a1 (by with_reducible assumption) (by walk_at "mine down") | exact ltm_a2 (by with_reducible assumption) (by walk_at "mine down") | exact ltm_a3 (by with_reducible assumption) (by walk_at "mine down") | exact ltm_a4 (by with_reducible assumption) (by walk_at "mine down") | exact ltm_a5 (by with_reducible assumption) (by walk_at "mine down"))
  trivial
theorem fill30 : (hd.heap_1 = hd.heap_1) ∧ (PySem.Challenge.rw_pb0538_01 = PySem.Challenge.rw_pb0538_01) := by k_fill; exact ⟨rfl, rfl⟩
theorem rowsP30_1 : True := by
  k_with "compareOp In int ref" => (k_here; k_dflt (first | refine in_hit (by k_tabat) (by assumption) ?_ | refine in_miss (by k_tabat) (by assumption) ?_))
  k_with "compareOp NotIn int ref" => (k_here; k_dflt (first | refine notin_hit (by k_tabat) (by assumption) ?_ | refine notin_miss (by k_tabat) (by assumption) ?_))
  k_with "mine cx" => exact ⟨by k_asm, by k_asm, by k_asm, by k_asm, by k_asm, by first | exact rfl | assumption⟩
  k_with "mine sub" => (first | exact fun _ h => h | exact sub_skip (fun _ h => h) | exact sub_skip (sub_skip (fun _ h => h)) | exact sub_skip (sub_skip (sub_skip (fun _ h => h))) | exact sub_skip (sub_skip (sub_skip (sub_skip (fun _ h => h)))) | exact sub_skip (sub_skip (sub_skip (sub_skip (sub_skip (fun _ h => h))))) | exact sub_skip (sub_skip (sub_skip (sub_skip (sub_skip (sub_skip (fun _ h => h)))))) | exact sub_keep (sub_skip (fun _ h => h)) | exact sub_keep (sub_skip (sub_skip (fun _ h => h))) | exact sub_keep (sub_skip (sub_skip (sub_skip (fun _ h => h)))) | exact sub_keep (sub_skip (sub_skip (sub_skip (sub_skip (fun _ h => h))))) | exact sub_keep (sub_skip (sub_skip (sub_skip (sub_skip (sub_skip (fun _ h => h)))))) | exact sub_keep (sub_skip (sub_skip (sub_skip (sub_skip (sub_skip (sub_skip (fun _ h => h))))))))
  k_with "mine priv" => (first | assumption | exact PrivAt.mono (by assumption) (by walk_at "mine sub"))
  k_with "mine dict" => (first | assumption | exact DictAt.mono (by assumption) (by walk_at "mine sub"))
  k_with "mine room" => ((try simp only [depth_under_make, depth_under_kw, depth_in1, depth_deeper, depth_caller, units_in1, units_deeper, Around.mark_units, units_caller]); (try dsimp only [ktrTop]); omega)
  k_with "mine fin" => (first | rfl | ((try dsimp only [vflV]); split <;> first | rfl | contradiction | (split <;> first | rfl | contradiction)))
  k_with "mine led" => (first | k_asm | exact drop1 (by k_asm) | exact drop2 (by k_asm) | exact drop3 (by k_asm) | exact drop4 (by k_asm))
  k_with "mine enterC" => (refine' code_defC ?zqk1 ?zqk2 ?zqk3 ?zqk4 ?zqk5 ?zqkA ?zqkF ?zqkK ?zqk6 ?zqk7 ?zqk8 ?zqk9 ?zqkB ?zqkD ?_ ?zqc2 ?zqc3 ?zqc4; (case zqkA => exact rfl); (case zqkF => exact rfl); (case zqkK => assumption); (case zqk1 => k_asm); (case zqk2 => k_asm); (case zqk3 => k_asm); (case zqk4 => k_asm); (case zqk5 => k_asm); (case zqk6 => k_is); (case zqk7 => k_is); (case zqk8 => ktr_room); (case zqk9 => exact BindsTo.of_eq rfl); (case zqkB => exact rfl); (case zqkD => decide +kernel); (case zqc2 => exact rfl); (case zqc3 => exact rfl); (case zqc4 => exact rfl); k_whole; intro g' L' h' tk' cells' FG' F' N' Y' B' X' T' l1; (try k_lt l1); k_cells Y'; (try simp only [List.cons_append, List.nil_append] at N'); (try dsimp only); (try k_fold))
  k_with "k_all" => assumption
  k_with "k_mem" => (first | exact List.Mem.head _ | ktr_member | (refine' List.mem_cons_of_mem _ ?_; k_mem))
  k_with "setItem ref int" => (k_here; k_dflt (refine' setItem_K PyProof.V.same_int (intKind_is _ _ _ _) ?zqv ?zqF ?zqN ?zqU ?zqd ?zqf ?_ ?zqz; (case zqF => k_asm); (case zqN => k_asm); (case zqU => k_updF); (case zqd => k_asm); (case zqf => k_asm); (case zqz => first | exact len_II (by assumption) | exact len_IS (by assumption)); (case zqv => k_flat)); intro h' o' F' N' hd' hf'; (try dsimp only at N'); (try k_sweep))
  k_with "mine fresh" => (first | assumption | exact ltm_all (by with_reducible assumption) (by walk_at "mine down") | exact lt_ne (by assumption) | exact allLt_ne (by k_asm) | exact off1_mem (by k_asm) | (rename _ ∧ _ => o9; first | exact off1_mem o9.2 | exact off1_mem o9.2.2 | exact off1_mem o9.2.2.2 | exact allLt_ne o9.2 | exact allLt_ne o9.2.2 | exact allLt_ne o9.2.2.2))
  k_with "callWith ref" => (k_here; k_dflt (refine' callWith_F0 ?zqk1 ?_; (case zqk1 => exact FnAt.of (by k_asm) (by k_mem)); k_whole; (try dsimp only [List.nil_append, List.cons_append])))
  trivial
section
variable {w : World} {mean : ExcName → Option Value} {mg mb : Str → Option Value} {dp un : Nat} {gd : Option (List Code)} {cn : Str} {cs : Scope} {a : Addr} {ccd : Value} {cl : List (Str × Addr)} {outer : List Env} {A₀ : Around} {base h₀ : Heap} {L : Addr} {m : Str → Option Value} {s : Shared} {news : List (Addr × Obj)} {Q E : Value → Shared → Prop}
  {P kd pd od md : Addr} {DK : List (Int × Str)} {DP DH DM : List (Int × Int)}
theorem c_is_refused {Inv : List (Addr × Obj) → Prop} {fa c' : Addr} {name qual : Str} {params : Arguments} {body : Expr} {scope : Scope} {clos : List (Str × Addr)} {pm ctv : Value} (cx : Cx w mean mg mb outer A₀ base h₀ L m cs s.heap news) (XB : (_root_.Mine.hd.heap_1 w.params).In base) (TB : Top topProg LO mean mg mb base) (D : KtsDicts (outer.filterMap (·.frame)) h₀)
    (hd : dp + 13 ≤ 500) (hu : un + 130 ≤ 5000) (mf : (fa, kla_obj name qual params body scope clos pm c' ctv) ∈ news)
    (call_f : ∀ {dp un : Nat} {gd : Option (List Code)} {cn : Str} {cs : Scope} {a : Addr} {ccd : Value} {cl : List (Str × Addr)} {outer : List Env} {A₀ : Around} {h₀ : Heap} {L : Addr} {m : Str → Option Value} {s : Shared} {Q E : Value → Shared → Prop},
      Cx w mean mg mb outer A₀ base h₀ L m cs s.heap news → dp + 10 ≤ 500 → un + 100 ≤ 5000 → (∀ news', Inv news' → Lands base h₀ outer L m cn cs a ccd cl s E news') → wpAny (model PR w) (ktrTop dp un gd cn cs L a ccd cl outer) (call (.ref fa) []) Q E s)
    (ret : ∀ h₁ news' h' tk', KtsTurn (outer.filterMap (·.frame)) h₀ h₁ → Fr h₁ L h' m → News h₁ L h' news' → Below A₀ base outer h₁ → (_root_.Mine.hd.heap_1 w.params).In h₁ → Top topProg LO mean mg mb h₁ → KtsDicts (outer.filterMap (·.frame)) h₁ → Inv news' → Q (.bool true) { s with heap := h', toks := tk' }) :
    wpAny (model PR w) (ktrTop dp un gd cn cs L a ccd cl outer) (call (.ref 194) [.ref fa]) Q E s := by
  obtain ⟨B, F, X, N, T, hk⟩ := cx
  refine wpAny_call ?_
  k_dflt (refine' code_SX ?k1 ?k2 ?k3 ?k4 ?k5 ?XB ?TB ?D ?kA ?kF ?kK ?k6 ?k7 ?k8 ?k9 ?kB ?_ ?c2 ?c3 ?c4 ?c5; (case kA => exact rfl); (case kF => exact rfl); (case kK => assumption); (case k1 => k_asm); (case k2 => k_asm); (case k3 => k_asm); (case k4 => k_asm); (case k5 => k_asm); (case XB => assumption); (case TB => assumption); (case D => assumption); (case k6 => k_is); (case k7 => k_is); (case k8 => ktr_room); (case k9 => exact BindsTo.of_eq rfl); (case c5 => decide); (case kB => exact locs rfl); (case c2 => exact rfl); (case c3 => exact rfl); (case c4 => exact rfl); k_whole; intro g' L' h' FG' F' N' B' X' T' D'; (try dsimp only); (try k_fold))
  k_steps
  refine' call_f ?qcx ?qd ?qu ?_
  case qcx => walk_at "mine cx"
  case qd => walk_at "mine room"
  case qu => walk_at "mine room"
  intro news' inv' C' e' t2' vs' g₂' h'' tk'' hC' F'' R'' U''
  rcases hC' with rfl | rfl
  all_goals (try dsimp only)
  all_goals k_steps
  all_goals exact ret _ _ _ _ (by assumption) (by assumption) (by assumption) (by assumption) (by assumption) (by assumption) (by assumption) inv'
end
end Mine
namespace Mine
theorem rowsP31_0 : True := by
  k_with_none
  k_with "mine down" => (first | exact fun _ h => h | (refine dn ?_; walk_at "mine down"))
  k_with "k_ne" => (first | with_reducible assumption | exact Ne.symm (by with_reducible assumption) | exact ltm_ne (by with_reducible assumption) (by k_mem) | exact ltm_en (by with_reducible assumption) (by k_mem) | exact Nat.ne_of_lt (by with_reducible assumption) | exact Nat.ne_of_gt (by with_reducible assumption) | exact ltm_c1 (by with_reducible assumption) (by k_mem) | exact ltm_d1 (by with_reducible assumption) (by k_mem) | exact ltm_c2 (by with_reducible assumption) (by k_mem) | exact ltm_d2 (by with_reducible assumption) (by k_mem) | exact ltm_c3 (by with_reducible assumption) (by k_mem) | exact ltm_d3 (by with_reducible assumption) (by k_mem) | exact ltm_c4 (by with_reducible assumption) (by k_mem) | exact ltm_d4 (by with_reducible assumption) (by k_mem) | exact ltm_c5 (by with_reducible assumption) (by k_mem) | exact ltm_d5 (by with_reducible assumption) (by k_mem) | (refine neN ?_; (try dsimp only); omega))
  k_with "k_all" => (first | exact ltm_all (by with_reducible assumption) (by walk_at "mine down") | exact ltm_a1 (by with_reducible assumption) (by walk_at "mine down") | exact ltm_a2 (by with_reducible assumption) (by walk_at "mine down") | exact ltm_a3 (by with_reducible assumption) (by walk_at "mine down") | exact ltm_a4 (by with_reducible assumption) (by walk_at "mine down") | exact ltm_a5 (by with_reducible assumption) (by walk_at "mine down"))
  trivial
open PyProof.Rows.LCg
section
variable {prog : Program} {w : World} {A : Around} {E : Value → Shared → Prop} {s : Shared} {h₀ : Heap} {L : Addr} {m : Str → Option Value} {env : Env}
/-- the source of a comprehension with one test over a dict's keys -/
def DSrc (prog : Program) (w : World) (A : Around) (h₀ : Heap) (L : Addr) (m : Str → Option Value) (env : Env) (ct elt : Expr) (x : Str) (scope : Scope) (cl : List (Str × Addr)) (Fin : Shared → List Value → List (Addr × Obj) → Prop) (xv : Value) (s₁ : Shared) : Prop :=
  ∃ d od kvs news, xv = .ref d ∧ A.handled = none ∧ Fr h₀ L s₁.heap m ∧ News h₀ L s₁.heap news ∧ (d, od) ∈ news ∧ od.IsDictOf (intKind prog w) kvs ∧ (d == sysModules) = false ∧ kvs.length ≤ sizeLine ∧
    ∀ g, LCt.CompRestT prog w A h₀ L m env ct elt x scope cl { s₁ with heap := g } (fun nw => (d, od) ∈ nw) (fun i v => ∃ k x, kvs[i]? = some (k, x) ∧ (intKind prog w).is k v = true) (Fin { s₁ with heap := g }) kvs.length 0 [] news
theorem comp_dict {ct elt iter : Expr} {x : Str} {px : Pos} {scope : Scope} {cl : List (Str × Addr)} {pos : Pos} {Q : Value → Shared → Prop} (F₀ : Fr h₀ L s.heap m)
    (hclos : closureFor scope env = pure cl) (hcell : ∀ y ∈ scope.names, y.2 ≠ .cell) (hkind : scope.kind = .function)
    (hnames : ∀ y ∈ scope.names, y.2 = .local → scope.names.lookup y.1 = some .local) (hx : scope.names.lookup x = some .local)
    (h : wpAny (model prog w) A (eval iter env) (DSrc prog w A h₀ L m env ct elt x scope cl (fun s₂ => FinE h₀ L m s₂ Q)) E s)
    (hs : ∀ x, foldedSetIterable iter env x = pure x := by intro _; rfl) :
    wpAny (model prog w) A (eval (.ListComp elt [⟨.Name x px, iter, [ct], 0⟩] scope pos) env) Q E s := by
  rw [eval_ListComp]
  refine wpAny_comprehension_free (use := none) rfl hs hclos hkind hnames (wpAny_mono h (fun xv s₁ h₁ => ?_) fun _ _ e => e)
  obtain ⟨d, od, kvs, news, rfl, hh, F, N, hm, hd, lo, hsz, R⟩ := h₁
  obtain ⟨ep, ha⟩ := KdkAt.of hd
  have hat := ha.dictAt (N _ hm).1
  have hlt : d < s₁.heap.objs.size := Heap.lt_size (N _ hm).1
  refine wpAny_pyIter_dict lo hat ?_
  have up : ∀ b o, s₁.heap.get? b = some o → (s₁.heap.push { cls := .type "dict_keyiterator", data := .fields #[.ref d, .int 0 0, .int kvs.length 0, .int ep 0] }).get? b = some o := fun b o e => Heap.get?_push_of_some _ e
  refine LCt.block_T (Walks.dictKeys (knd := intKind prog w) hh s₁.heap.objs.size d (Nat.ne_of_lt hlt) kvs ep) hsz (fun i h st => by obtain ⟨o, e, _⟩ := st.1; exact ⟨o, e⟩)
    (fun i h h' o nw st e e' _ N' S => ⟨by obtain ⟨o', q, r⟩ := st.1; rw [e] at q; cases q; exact ⟨o, e', r⟩, ha.dictAt (N' _ S).1⟩) hcell hkind hx ⟨⟨_, Heap.get?_push_size _ rfl, rfl, rfl⟩, hat.push _⟩ (fun b hb => ?_)
    (F.keeps up) (N.grown up) (Nat.ne_of_lt F.ns.lt) (next_is_new F) (fun p hp => Nat.ne_of_lt (Heap.lt_size (N p hp).1)) hm (R _) ?_
  · show b < (s₁.heap.push _).objs.size
    rw [Heap.size_push]
    rcases List.mem_cons.mp hb with rfl | hb
    · exact Nat.lt_succ_self _
    · rw [List.mem_singleton.mp hb]; exact Nat.lt_succ_of_lt hlt
  · intro D C h tk m' ys news' F' N' o1 hn hC₀ hD₀ hCL hDL hCD offC fin
    refine ⟨m', hn, fun h'' hs'' => fin D h'' tk (F'.change hs'' hCL hC₀) (fun p hp => ?_) o1⟩
    refine ⟨hs''.extBut _ _ ?_ (N' p hp).1, (N' p hp).2⟩
    rcases List.mem_cons.mp hp with rfl | hp
    · exact Ne.symm hCD
    · exact offC p hp
end
theorem triples_snoc {a b : Int} {t u : Tok} {c : Value} (l : List Value) (h : TriplesOk l) : TriplesOk (l ++ [.int a t, .int b u, c]) := by
  fun_induction TriplesOk l with
  | case1 => trivial
  | case2 _ _ _ _ _ rest ih => exact ih h
  | case3 => exact h.elim
theorem among_snoc {pos : Pos} {a b : Int} {t u : Tok} {c : Value} (l : List Value) (h : TriplesOk l) : codeAmong pos (l ++ [.int a t, .int b u, c]) = codeAmong pos l ∨ codeAmong pos (l ++ [.int a t, .int b u, c]) = some c := by
  fun_induction TriplesOk l with
  | case1 =>
    simp only [List.nil_append, codeAmong]
    split
    · exact .inr rfl
    · exact .inl rfl
  | case2 _ _ _ _ _ rest ih =>
    simp only [List.cons_append, codeAmong]
    split
    · exact .inl rfl
    · exact ih h
  | case3 => exact h.elim
/-- the name that the lambdas of _law_refusal_right bear -/
abbrev QL : Str := "_law_refusal_right" ++ ".<locals>." ++ "<lambda>"
/-- the table of code objects that _law_refusal_right has made -/
def TabOk (rest : List (Addr × Obj)) (ps : Array Value) : Prop :=
  TriplesOk ps.toList ∧ ∀ pos, codeAmong pos ps.toList = none ∨ ∃ c' oc vs t, codeAmong pos ps.toList = some (.ref c') ∧ (c', oc) ∈ rest ∧ oc.data = .fields vs ∧ vs[1]? = some (.str QL t)
theorem TabOk.nil {rest : List (Addr × Obj)} : TabOk rest #[] := ⟨trivial, fun _ => .inl rfl⟩
theorem TabOk.mono {x y : List (Addr × Obj)} {ps : Array Value} (h : TabOk x ps) (k : ∀ p ∈ x, p ∈ y) : TabOk y ps :=
  ⟨h.1, fun pos => (h.2 pos).imp id fun ⟨c', oc, vs, t, a, b, r⟩ => ⟨c', oc, vs, t, a, k _ b, r⟩⟩
section
variable {prog : Program} {w : World} {A : Around} {E : Value → Shared → Prop} {s : Shared} {h₀ : Heap} {L a : Addr} {m mg mb : Str → Option Value} {cn : Str} {cs : Scope} {cl : List (Str × Addr)} {news rest : List (Addr × Obj)} {g : Obj → List (Addr × Obj)}
  {p : Program} {loose : List Str} {mean : ExcName → Option Value} {params : Arguments} {body : Expr} {scope : Scope} {ps : Array Value} {pos : Pos} {clos : List (Str × Addr)}
theorem mk_lambda {Q : Value → Shared → Prop} (F : Fr h₀ L s.heap m) (N : News h₀ L s.heap news) (T : Top p loose mean mg mb h₀) (C : CodeHd h₀ 248 246) (U : UpdF 246 (tabObj ps) news g) (tab : TabOk rest ps) (sub : ∀ p ∈ rest, p ∈ news)
    (hdef : defaultsOf params (envX cn cs L a (.ref 248) cl) = ([], [])) (hq : (envX cn cs L a (.ref 248) cl).qual ++ "<lambda>" = QL) (hcl : closureFor scope (envX cn cs L a (.ref 248) cl) = pure clos)
    (ret : ∀ f c' oc vs t ctv ps' h' tk pm, Fr h₀ L h' m → News h₀ L h' ((f, kla_obj "<lambda>" QL params body scope clos pm c' ctv) :: (c', oc) :: g (tabObj ps')) → oc.data = .fields vs → vs[1]? = some (.str QL t) → TabOk ((c', oc) :: rest) ps' →
      (∀ q ∈ news, @LT.lt Nat _ q.1 f) → ((∀ q ∈ news, @Ne Nat q.1 c') ∨ (c', oc) ∈ rest) → Q (.ref f) { s with heap := h', toks := tk }) :
    wpAny (model prog w) A (eval (.Lambda params body scope pos) (envX cn cs L a (.ref 248) cl)) Q E s := by
  refine kla_eval hdef ?_
  rw [hq]
  rcases tab.2 pos with hn | ⟨c', oc, vs, t, hc, hm, hd, hv⟩
  · refine kla_nest F N T C rfl U tab.1 hn hcl fun f c' oc vs t ctv h' tk F' N' d1 d2 l1 l2 => ?_
    refine ret f c' oc vs t ctv _ h' tk ((mg "__name__").getD .none) F' N' d1 d2 ⟨?_, fun pos' => ?_⟩ (fun q hq => Nat.lt_trans (l1 q hq) l2) (.inl fun q hq => Nat.ne_of_lt (l1 q hq))
    · rw [Array.toList_append]; exact triples_snoc _ tab.1
    · rw [Array.toList_append]
      rcases among_snoc (pos := pos') (a := pos.line) (b := pos.col) (t := 0) (u := 0) (c := .ref c') ps.toList tab.1 with e | e
      · rcases tab.2 pos' with z | ⟨c₂, o₂, vs₂, t₂, z, zm, zr⟩
        · exact .inl (e.trans z)
        · exact .inr ⟨c₂, o₂, vs₂, t₂, e.trans z, .tail _ zm, zr⟩
      · exact .inr ⟨c', oc, vs, t, e, .head _, d1, d2⟩
  · have hm246 := UpdF.here U
    refine kla_hit F N T C rfl hm246 tab.1 hc hcl fun f ctv h' tk F' N' l1 => ?_
    refine ret f c' oc vs t ctv ps h' tk ((mg "__name__").getD .none) F' (fun q hq => ?_) hd hv (tab.mono fun q hq => .tail _ hq) l1 (.inr hm)
    rcases List.mem_cons.mp hq with rfl | hq
    · exact N' _ (.head _)
    · rcases List.mem_cons.mp hq with rfl | hq
      · exact N' _ (.tail _ (sub _ hm))
      · rw [UpdF.same U] at hq
        exact N' _ (.tail _ hq)
end
end Mine
namespace Mine
theorem rowsP32_0 : True := by
  k_with_none
  k_with "mine down" => (first | exact fun _ h => h | (refine dn ?_; walk_at "mine down"))
  k_with "k_ne" => (first | with_reducible assumption | exact Ne.symm (by with_reducible assumption) | exact ltm_ne (by with_reducible assumption) (by k_mem) | exact ltm_en (by with_reducible assumption) (by k_mem) | exact Nat.ne_of_lt (by with_reducible assumption) | exact Nat.ne_of_gt (by with_reducible assumption) | exact ltm_c1 (by with_reducible assumption) (by k_mem) | exact ltm_d1 (by with_reducible assumption) (by k_mem) | exact ltm_c2 (by with_reducible assumption) (by k_mem) | exact ltm_d2 (by with_reducible assumption) (by k_mem) | exact ltm_c3 (by with_reducible assumption) (by k_mem) | exact ltm_d3 (by with_reducible assumption) (by k_mem) | exact ltm_c4 (by with_reducible assumption) (by k_mem) | exact ltm_d4 (by with_reducible assumption) (by k_mem) | exact ltm_c5 (by with_reducible assumption) (by k_mem) | exact ltm_d5 (by with_reducible assumption) (by k_mem) | (refine neN ?_; (try dsimp only); omega))
  k_with "k_all" => (first | exact ltm_all (by with_reducible assumption) (by walk_at "mine down") | exact ltm_a1 (by with_reducible assumption) (by walk_at "mine down") | exact ltm_a2 (by with_reducible assumption) (by walk_at "mine down") | exact ltm_a3 (by with_reducible assumption) (by walk_at "mine down") | exact ltm_a4 (by with_reducible assumption) (by walk_at "mine down") | exact ltm_a5 (by with_reducible assumption) (by walk_at "mine down"))
  trivial
theorem fill32 : (hd.heap_1 = hd.heap_1) ∧ (PySem.Challenge.rw_pb0538_01 = PySem.Challenge.rw_pb0538_01) := by k_fill; exact ⟨rfl, rfl⟩
theorem rowsP32_1 : True := by
  k_with "mine cx" => exact ⟨by k_asm, by k_asm, by k_asm, by k_asm, by k_asm, by first | exact rfl | assumption⟩
  k_with "mine sub" => (first | exact fun _ h => h | exact sub_skip (fun _ h => h) | exact sub_skip (sub_skip (fun _ h => h)) | exact sub_skip (sub_skip (sub_skip (fun _ h => h))) | exact sub_skip (sub_skip (sub_skip (sub_skip (fun _ h => h)))) | exact sub_skip (sub_skip (sub_skip (sub_skip (sub_skip (fun _ h => h))))) | exact sub_skip (sub_skip (sub_skip (sub_skip (sub_skip (sub_skip (fun _ h => h)))))) | exact sub_keep (sub_skip (fun _ h => h)) | exact sub_keep (sub_skip (sub_skip (fun _ h => h))) | exact sub_keep (sub_skip (sub_skip (sub_skip (fun _ h => h)))) | exact sub_keep (sub_skip (sub_skip (sub_skip (sub_skip (fun _ h => h))))) | exact sub_keep (sub_skip (sub_skip (sub_skip (sub_skip (sub_skip (fun _ h => h)))))) | exact sub_keep (sub_skip (sub_skip (sub_skip (sub_skip (sub_skip (sub_skip (fun _ h => h))))))))
  k_with "mine priv" => (first | assumption | exact PrivAt.mono (by assumption) (by walk_at "mine sub"))
  k_with "mine dict" => (first | assumption | exact DictAt.mono (by assumption) (by walk_at "mine sub"))
  k_with "mine room" => ((try simp only [depth_under_make, depth_under_kw, depth_in1, depth_deeper, depth_caller, units_in1, units_deeper, Around.mark_units, units_caller]); (try dsimp only [ktrTop]); omega)
  k_with "k_all" => assumption
  k_with "k_mem" => (first | exact List.Mem.head _ | ktr_member | (refine' List.mem_cons_of_mem _ ?_; k_mem))
  k_with "mine fresh" => (first | assumption | exact ltm_all (by with_reducible assumption) (by walk_at "mine down") | exact lt_ne (by assumption) | exact allLt_ne (by k_asm) | exact off1_mem (by k_asm) | (rename _ ∧ _ => o9; first | exact off1_mem o9.2 | exact off1_mem o9.2.2 | exact off1_mem o9.2.2.2 | exact allLt_ne o9.2 | exact allLt_ne o9.2.2 | exact allLt_ne o9.2.2.2))
  k_with "mine pull" => (repeat' (first | exact Pull.head | refine' Pull.tail ?_))
  k_with "mine in" => (first | exact List.Mem.head _ | (refine' List.Mem.tail _ ?_; walk_at "mine in"))
  k_with "mine rows" => (first | exact RowsIn.nil | (refine' RowsIn.cons ⟨_, _, ?zqm⟩ ?_; (case zqm => walk_at "mine in"); walk_at "mine rows"))
  k_with "mine off" => (first | assumption | (refine List.forall_mem_cons.mpr ⟨by k_ne, ?_⟩; walk_at "mine off"))
  k_with "mine fam" => (refine' ⟨_, _, _, _, _, _, _, ?zqm1, ?zqm2, ?zqm3, ⟨_, _, ?zqm4, ?zqm5⟩, _, _, ?zqm6, ?zqm7⟩; (case zqm1 => walk_at "mine in"); (case zqm2 => walk_at "mine in"); (case zqm3 => walk_at "mine in"); (case zqm4 => walk_at "mine in"); (case zqm5 => walk_at "mine rows"); (case zqm6 => walk_at "mine in"); (case zqm7 => walk_at "mine rows"))
  k_with "mine prB" => (first | exact prB_1 (by assumption) | exact prB_2 (by assumption) | exact prB_0 (by assumption) (by assumption))
  k_with "call builtin:sorted" => (k_here; (with_reducible show wpAny _ _ (call (Value.builtin "sorted") [Value.ref _]) _ _ _); k_dflt (refine sortL (by k_asm) (by k_asm) (by k_mem) (by assumption) (by assumption) ?_); intro D' h' tk' vs' k' F' N' l1 hi'; (try k_lt l1))
  k_with "k_all" => (first | assumption | exact lt_ne1 (by assumption) | exact lt_ne2 (by assumption) | exact lt_ne3 (by assumption) | exact lt_ne4 (by assumption))
  k_with "k_all" => (first | assumption | exact lt_ne (by assumption) | exact lt_ne1 (by assumption) | exact lt_ne2 (by assumption) | exact lt_ne3 (by assumption) | exact lt_ne4 (by assumption) | exact allLt_ne (by k_asm))
  k_with "mine priv" => (first | assumption | exact PrivAt.mono (by assumption) (by walk_at "mine sub") | exact ⟨_, _, _, _, _, _, _, _, _, _, (by k_mem), (by k_mem)⟩)
  k_with "mine dict" => (first | assumption | exact DictAt.mono (by assumption) (by walk_at "mine sub") | exact ⟨_, _, (by k_mem), (by assumption), (by assumption), (by assumption)⟩)
  k_with "k_all" => exact lt_ne_trans (by assumption) (by omega)
  k_with "mine ne" => (first | assumption | k_ne)
  k_with "mine few" => (first | assumption | exact Nat.le_of_ble_eq_true rfl)
  k_with "mine own" => (first | assumption | (intro x9 hx9; (try (have q9 := Option.some.inj hx9; subst q9; exact ⟨_, rfl⟩)); (repeat' (rcases List.mem_cons.mp hx9 with hx9 | hx9)) <;> first | exact absurd hx9 List.not_mem_nil | (subst hx9; exact ⟨_, rfl⟩)))
  k_with "mine ints" => (first | assumption | exact IntsAre.cons _ _ (IntsAre.cons _ _ (IntsAre.cons _ _ IntsAre.nil)) | exact IntsAre.cons _ _ (IntsAre.cons _ _ IntsAre.nil))
  k_with "call ref" => (k_here; (with_reducible show wpAny _ _ (call (Value.ref 187) _) _ _ _); k_dflt (refine' c_oneU ?zqcx ?zqU ?zqd ?zqu ?zqy1 ?zqy2 ?zqm ?zqn ?zqi ?zql0 ?zql1 ?_; (case zqcx => walk_at "mine cx"); (case zqm => k_mem); (case zqn => walk_at "mine ne"); (case zqU => k_updF); (case zqd => walk_at "mine room"); (case zqu => walk_at "mine room"); (case zqy1 => assumption); (case zqy2 => assumption); (case zqi => walk_at "mine ints"); (case zql0 => first | assumption | exact pos_of (by assumption) | exact pos_of' (by assumption) | exact Nat.le_of_ble_eq_true rfl); (case zql1 => first | assumption | exact Nat.le_of_ble_eq_true rfl)); intro d' u' h' tk' x' y' tx' ty' k' hm' hy0' hy1' F' N'; (try dsimp only at N'); (try dsimp only))
  trivial
section
variable {w : World} {mean : ExcName → Option Value} {mg mb : Str → Option Value} {dp un : Nat} {gd : Option (List Code)} {cn : Str} {cs : Scope} {a : Addr} {ccd : Value} {cl : List (Str × Addr)} {outer : List Env} {A₀ : Around} {base h₀ : Heap} {L : Addr} {m : Str → Option Value} {s : Shared} {news : List (Addr × Obj)} {Q E : Value → Shared → Prop}
  {P kd pd od md : Addr} {DK : List (Int × Str)} {DP DH DM : List (Int × Int)}
theorem lt_ne_le {D K : Addr} {l : List (Addr × Obj)} (x : ∀ p ∈ l, @LT.lt Nat _ p.1 D) (h : @LE.le Nat _ D K) : ∀ p ∈ l, p.1 ≠ K := fun p q => Nat.ne_of_lt (Nat.lt_of_lt_of_le (x p q) h)
theorem rowsP32_2 : True := by
  k_with "k_all" => (first | assumption | exact lt_ne_le (by assumption) (by omega))
  trivial
theorem cells5 {cm : Str → Option Value} {n₁ n₂ n₃ n₄ n₅ : Str} {c₁ c₂ c₃ c₄ c₅ : Addr} {cells : List (Addr × Obj)} (x : CellsAre cm [(n₁, c₁), (n₂, c₂), (n₃, c₃), (n₄, c₄), (n₅, c₅)] cells) :
    ∃ o₁ o₂ o₃ o₄ o₅, cells = [(c₁, o₁), (c₂, o₂), (c₃, o₃), (c₄, o₄), (c₅, o₅)] ∧ o₁.data = .cell (cm n₁) ∧ o₂.data = .cell (cm n₂) ∧ o₃.data = .cell (cm n₃) ∧ o₄.data = .cell (cm n₄) ∧ o₅.data = .cell (cm n₅) := by
  cases x with | cons h r => obtain ⟨o₂, o₃, o₄, o₅, rfl, h₂, h₃, h₄, h₅⟩ := r.four; exact ⟨_, o₂, o₃, o₄, o₅, rfl, h, h₂, h₃, h₄, h₅⟩
def isTold : Told → Bool
  | .other => false
  | _ => true
def takenF (PT : List (Int × Told)) : List Int := (PT.filter fun p => isTold p.2).map Prod.fst
theorem taken_snoc {PT : List (Int × Told)} {i : Nat} {k : Int} {τ : Told} (h : PT[i]? = some (k, τ)) : takenF (PT.take (i + 1)) = takenF (PT.take i) ++ if isTold τ = true then [k] else [] := by
  unfold takenF
  rw [List.take_add_one, h, List.filter_append, List.map_append]
  cases τ <;> rfl
theorem PortsIn.get {news : List (Addr × Obj)} {kvs : List (Int × Value)} {PT : List (Int × Told)} (h : PortsIn news kvs PT) : ∀ {i : Nat} {k : Int} {x : Value}, kvs[i]? = some (k, x) → ∃ a τ, x = .ref a ∧ PT[i]? = some (k, τ) ∧ ToldAt news a τ := by
  induction h with
  | nil => intro i k x e; simp at e
  | @cons k' a τ kvs PT t r ih =>
    intro i k x e
    cases i with
    | zero => cases e; exact ⟨a, τ, rfl, rfl, t⟩
    | succ i => exact ih e
theorem PortsIn.len {news : List (Addr × Obj)} {kvs : List (Int × Value)} {PT : List (Int × Told)} (h : PortsIn news kvs PT) : kvs.length = PT.length := by
  induction h with
  | nil => rfl
  | cons _ _ ih => simp only [List.length_cons, ih]
def InvR (sd : Addr) (ps : Array Value) (rest : List (Addr × Obj)) (news : List (Addr × Obj)) : Prop :=
  ∃ x y tx ty k, 0 ≤ y ∧ y < 2147483647 ∧ ∀ p ∈ (246, tabObj ps) :: (sd, srcOf x y tx ty k) :: rest, p ∈ news
/-- a lambda whose call raises one of the project's errors, in any frame -/
def CallF (w : World) (mean : ExcName → Option Value) (mg mb : Str → Option Value) (base : Heap) (fa : Addr) (Inv : List (Addr × Obj) → Prop) (news : List (Addr × Obj)) : Prop :=
  ∀ {dp un : Nat} {gd : Option (List Code)} {cn : Str} {cs : Scope} {a : Addr} {ccd : Value} {cl : List (Str × Addr)} {outer : List Env} {A₀ : Around} {h₀ : Heap} {L : Addr} {m : Str → Option Value} {s : Shared} {Q E : Value → Shared → Prop},
      Cx w mean mg mb outer A₀ base h₀ L m cs s.heap news → dp + 10 ≤ 500 → un + 100 ≤ 5000 → (∀ news', Inv news' → Lands base h₀ outer L m cn cs a ccd cl s E news') → wpAny (model PR w) (ktrTop dp un gd cn cs L a ccd cl outer) (call (.ref fa) []) Q E s
def LamOk (w : World) (mean : ExcName → Option Value) (mg mb : Str → Option Value) (base : Heap) (fa sd : Addr) (ps' : Array Value) (c' : Addr) (oc : Obj) (rest : List (Addr × Obj)) (src obj : Obj) (news : List (Addr × Obj)) : Prop :=
  ∃ cls, CallF w mean mg mb base fa (InvR sd ps' ((c', oc) :: rest)) ((246, tabObj ps') :: (sd, src) :: (fa, obj) :: (c', oc) :: (cls ++ rest)) ∧ ∀ p ∈ (246, tabObj ps') :: (sd, src) :: (fa, obj) :: (c', oc) :: (cls ++ rest), p ∈ news
theorem c_refuse {fa c' sd : Addr} {params : Arguments} {body : Expr} {scope : Scope} {clos : List (Str × Addr)} {pm ctv : Value} {oc : Obj} {ps' : Array Value} {rest : List (Addr × Obj)} {x y : Int} {tx ty : Tok} {k : Nat} (cx : Cx w mean mg mb outer A₀ base h₀ L m cs s.heap news) (XB : (_root_.Mine.hd.heap_1 w.params).In base) (TB : Top topProg LO mean mg mb base) (D : KtsDicts (outer.filterMap (·.frame)) h₀)
    (hd : dp + 13 ≤ 500) (hu : un + 130 ≤ 5000) (mf : (fa, kla_obj "<lambda>" QL params body scope clos pm c' ctv) ∈ news) (ms : (sd, srcOf x y tx ty k) ∈ news) (tab : TabOk ((c', oc) :: rest) ps')
    (ok : LamOk w mean mg mb base fa sd ps' c' oc rest (srcOf x y tx ty k) (kla_obj "<lambda>" QL params body scope clos pm c' ctv) news)
    (ret : ∀ h₁ h' tk' x' y' tx' ty' k', KtsTurn (outer.filterMap (·.frame)) h₀ h₁ → Fr h₁ L h' m → News h₁ L h' ((246, tabObj ps') :: (sd, srcOf x' y' tx' ty' k') :: (c', oc) :: rest) → Below A₀ base outer h₁ → (_root_.Mine.hd.heap_1 w.params).In h₁ → Top topProg LO mean mg mb h₁ → KtsDicts (outer.filterMap (·.frame)) h₁ → 0 ≤ y' → y' < 2147483647 → Q (.bool true) { s with heap := h', toks := tk' }) :
    wpAny (model PR w) (ktrTop dp un gd cn cs L a ccd cl outer) (call (.ref 194) [.ref fa]) Q E s :=
  let ⟨cls, call_f, sub⟩ := ok
  c_is_refused (Inv := InvR sd ps' ((c', oc) :: rest)) ⟨cx.B, cx.F, cx.X, fun p hp => cx.N p (sub p hp), cx.T, cx.hk⟩ XB TB D hd hu (.tail _ (.tail _ (.head _))) (fun cx' a b l => call_f cx' a b l) fun h₁ news' h' tk' kT F' N' B' X' T' D' ⟨x', y', tx', ty', k', a, b, q⟩ => ret h₁ h' tk' x' y' tx' ty' k' kT F' (fun p hp => N' p (q p hp)) B' X' T' D' a b
theorem lam_ne {c' d : Addr} {oc o : Obj} {rest : List (Addr × Obj)} (lc : (∀ q ∈ news, @Ne Nat q.1 c') ∨ (c', oc) ∈ rest) (hm : (d, o) ∈ news) (off : ∀ q ∈ rest, q.1 ≠ d) : @Ne Nat c' d := by
  rcases lc with h | h
  · exact Ne.symm (h _ hm)
  · exact off _ h
theorem sub_in {p : Addr × Obj} {x y : List (Addr × Obj)} (hm : p ∈ y) (h : ∀ q ∈ x, q ∈ y) : ∀ q ∈ p :: x, q ∈ y := fun q hq => by
  rcases List.mem_cons.mp hq with rfl | hq
  · exact hm
  · exact h q hq
theorem sub_out {p : Addr × Obj} {x y : List (Addr × Obj)} (h : ∀ q ∈ x, q ∈ y) : ∀ q ∈ x, q ∈ p :: y := fun q hq => .tail _ (h q hq)
theorem rowsP32_3 : True := by
  k_with "mine sub" => (first | exact fun _ h => h | (with_reducible assumption) | (refine sub_in ?_ ?_; (· k_mem); (· walk_at "mine sub")) | (refine sub_out ?_; walk_at "mine sub"))
  trivial
/-- the asks that are refused -/
def EkS (DK : List (Int × Str)) (DP : List (Int × Int)) (k : Str) (l : List Int) : Prop := ∀ p ∈ l, ((DK.lookup p).getD "plain" = "plain" ∧ k = "community") ∨ ((DK.lookup p).getD "plain" = "isolated" ∧ k = "community") ∨ ((DK.lookup p).getD "plain" = "primary" ∧ k = "alone") ∨
      ((DK.lookup p).getD "plain" = "primary" ∧ k = "isolated" ∧ DK.lookup 101 = some "isolated" ∧
        (secF DK DP p = [101] ∨ (secF DK DP p = [101, 102] ∧ DK.lookup 102 = some "community") ∨ (secF DK DP p = [101, 102, 103] ∧ DK.lookup 102 = some "community" ∧ DK.lookup 103 = some "community")))
theorem EkS.at {k : Str} {l : List Int} {p : Int} (h : EkS DK DP k l) (m : p ∈ l) : ((DK.lookup p).getD "plain" = "plain" ∧ k = "community") ∨ ((DK.lookup p).getD "plain" = "isolated" ∧ k = "community") ∨ ((DK.lookup p).getD "plain" = "primary" ∧ k = "alone") ∨
      ((DK.lookup p).getD "plain" = "primary" ∧ k = "isolated" ∧ DK.lookup 101 = some "isolated" ∧
        (secF DK DP p = [101] ∨ (secF DK DP p = [101, 102] ∧ DK.lookup 102 = some "community") ∨ (secF DK DP p = [101, 102, 103] ∧ DK.lookup 102 = some "community" ∧ DK.lookup 103 = some "community"))) := h p m
def EhA (DK : List (Int × Str)) (l : List Int) : Prop := ∀ v ∈ l, (DK.lookup v).getD "plain" = "plain" ∨ (DK.lookup v).getD "plain" = "primary"
def EhB (DH DM : List (Int × Int)) (l : List Int) : Prop := ∀ p ∈ l, (∃ x, DH.lookup p = some x) ∨ (DH.lookup p = none ∧ ∃ x, DM.lookup p = some x)
def EpS (DK : List (Int × Str)) (l : List Int) : Prop := ∀ v ∈ l, (DK.lookup v).getD "plain" = "plain" ∨ (DK.lookup v).getD "plain" = "isolated"
theorem EhA.at {l : List Int} {v : Int} {q : Prop} (h : EhA DK l) (m : v ∈ l) : ((DK.lookup v).getD "plain" = "plain" ∨ (DK.lookup v).getD "plain" = "primary") ∨ q := .inl (h v m)
theorem EhB.at {l : List Int} {p v : Int} {q : Prop} (h : EhB DH DM l) (m : p ∈ l) (e : (DK.lookup v).getD "plain" = "isolated") : q ∨ ((DK.lookup v).getD "plain" = "isolated" ∧ ((∃ x, DH.lookup p = some x) ∨ (DH.lookup p = none ∧ ∃ x, DM.lookup p = some x))) := .inr ⟨e, h p m⟩
theorem EpS.at {l : List Int} {v : Int} (h : EpS DK l) (m : v ∈ l) : (DK.lookup v).getD "plain" = "plain" ∨ (DK.lookup v).getD "plain" = "isolated" := h v m
theorem rowsP32_4 : True := by
  k_with "call ref" => (k_here; (with_reducible show wpAny _ _ (call (Value.ref 79) _) _ _ _); k_dflt (refine' r_add_primary ?zqcx ?zqd ?zqu ?zqp ?zqK _ _ _ ?zqe ?_; (case zqcx => walk_at "mine cx"); (case zqd => walk_at "mine room"); (case zqu => walk_at "mine room"); (case zqp => walk_at "mine priv"); (case zqK => walk_at "mine dict"); (case zqe => assumption)); intro C' e' t2' vs' g' h' tk' hC' F' R' U'; (try dsimp only))
  k_with "call ref" => (k_here; (with_reducible show wpAny _ _ (call (Value.ref 84) _) _ _ _); k_dflt (refine' r_add_sec ?zqcx ?zqd ?zqu ?zqp ?zqK ?zqP ?zqz ?zqo _ _ _ _ _ _ ?zqe ?zqk ?_; (case zqcx => walk_at "mine cx"); (case zqd => walk_at "mine room"); (case zqu => walk_at "mine room"); (case zqp => walk_at "mine priv"); (case zqK => walk_at "mine dict"); (case zqP => walk_at "mine dict"); (case zqz => assumption); (case zqo => assumption); (case zqe => assumption); (case zqk => first | exact EkS.at (by assumption) (List.Mem.head _) | exact EkS.at (by assumption) (by assumption))); intro C' e' t2' vs' g' h' tk' hC' F' R' U'; (try dsimp only))
  k_with "call ref" => (k_here; (with_reducible show wpAny _ _ (call (Value.ref 98) _) _ _ _); k_dflt (refine' r_set_host ?zqcx ?zqd ?zqu ?zqp ?zqK ?zqH ?zqM _ _ _ _ ?zqe ?_; (case zqcx => walk_at "mine cx"); (case zqd => walk_at "mine room"); (case zqu => walk_at "mine room"); (case zqp => walk_at "mine priv"); (case zqK => walk_at "mine dict"); (case zqH => walk_at "mine dict"); (case zqM => walk_at "mine dict"); (case zqe => first | exact EhB.at (by assumption) (by assumption) (by assumption) | exact EhA.at (by assumption) (by assumption))); intro C' e' t2' vs' g' h' tk' hC' F' R' U'; (try dsimp only))
  k_with "call ref" => (k_here; (with_reducible show wpAny _ _ (call (Value.ref 105) _) _ _ _); k_dflt (refine' r_set_prom ?zqcx ?zqd ?zqu ?zqp ?zqK _ _ _ _ ?zqe ?_; (case zqcx => walk_at "mine cx"); (case zqd => walk_at "mine room"); (case zqu => walk_at "mine room"); (case zqp => walk_at "mine priv"); (case zqK => walk_at "mine dict"); (case zqe => exact EpS.at (by assumption) (by assumption))); intro C' e' t2' vs' g' h' tk' hC' F' R' U'; (try dsimp only))
  k_with "leaving ref" => (k_here; (refine' leave_onX ?zqK ?zqF ?zqR ?zqU ?_; (case zqR => assumption); (case zqF => assumption); (case zqK => assumption); (case zqU => assumption); k_whole; intro h' R' U'; (try dsimp only at R' U' ⊢)))
  k_with "mine lam" => (refine' kla_code ?zqk1 ?zqk2 ?zqk3 ?zqk4 ?zqk5 ?zqkA ?zqkF ?zqkK ?zqk6 ?zqk7 ?zqk8 ?zqk9 ?zqkB ?_ ?zqc2 ?zqc3 ?zqc4 ?zqc5; (case zqkA => exact rfl); (case zqkF => exact rfl); (case zqkK => assumption); (case zqk1 => k_asm); (case zqk2 => k_asm); (case zqk3 => k_asm); (case zqk4 => k_asm); (case zqk5 => k_asm); (case zqk6 => k_mem); (case zqk7 => exact codeRec_news (by k_asm) (by k_mem) (by assumption) (by assumption)); (case zqk8 => ktr_room); (case zqk9 => exact rfl); (case zqc5 => decide); (case zqkB => exact locs rfl); (case zqc2 => exact rfl); (case zqc3 => exact rfl); (case zqc4 => exact rfl); k_whole; intro g' L' h' FG' F' N' B' X' T'; (try dsimp only); (try k_fold))
  trivial
theorem pos_of {l : List Int} (h : l ≠ []) : 0 < l.length := List.length_pos_iff.mpr h
theorem pos_of' {l : List Int} (h : decide (l = []) = false) : 0 < l.length := pos_of (of_decide_eq_false h)
def takeBody {K : Frag} {f : Addr} {oc : Value} {od : Option Addr} {name qual : Str} {params : Arguments} {body : List Stmt} {scope : Scope} {dV kV doc pm : Value} {an : Option Addr} {cdv ct : Value} {osl : Array (Option Value)}
    (_ : K.lookup f = some ⟨oc, od, .func (fnOf name qual params body scope dV kV doc pm an cdv ct), osl⟩) : List Stmt := body
noncomputable def B249 (w : World) : List Stmt := takeBody (K := hd.heap_1 w.params) (f := 249) (by k_dflt k_is)
def ifB : Stmt → Stmt
  | .If _ b _ _ => b.getD 0 (.Pass default)
  | s => s
def retE : Stmt → Expr
  | .Return e _ => e.getD (.Name "x" default)
  | _ => .Name "x" default
def orE : Expr → Expr
  | .BoolOp _ es _ => es.getD 1 (.Name "x" default)
  | e => e
def argE : Expr → Expr
  | .Call _ l _ _ => l.getD 0 (.Name "x" default)
  | e => e
def lamE : Expr → Expr × Scope
  | .Lambda _ b sc _ => (b, sc)
  | e => (e, default)
def lamIf (s : Stmt) : Expr × Scope := lamE (argE (orE (retE (ifB s))))
def lamAt (l : List Stmt) (k : Nat) : Expr × Scope := lamIf (l.getD (k + 2) (.Pass default))
theorem lam0 {v : Int} {tv : Tok} {z : Str} {fa c' sd ca cb : Addr} {oc oa ob : Obj} {pm ctv : Value} {vs : Array Value} {t : Tok} {ps : Array Value} {rest : List (Addr × Obj)} {x y : Int} {tx ty : Tok} {k : Nat} (C : CodeHd base 248 246) (od' : oc.data = .fields vs) (ov : vs[1]? = some (.str QL t)) (hy : 0 ≤ y) (hy2 : y < 2147483647)
    (n46 : @Ne Nat 246 sd) (nfa : @Ne Nat fa sd) (nc : @Ne Nat c' sd) (nca : @Ne Nat ca sd) (ncb : @Ne Nat cb sd) (osd : ∀ q ∈ rest, q.1 ≠ sd) (hp : PrivAt rest P kd pd od md) (e0 : oa.data = .cell (some (.ref P))) (e1 : ob.data = .cell (some (.int v tv))) (hK : DictAt w rest kd (IS DK)) (e9 : DK.lookup v = some z) :
    CallF w mean mg mb base fa (InvR sd ps ((c', oc) :: rest)) ((246, tabObj ps) :: (sd, srcOf x y tx ty k) :: (fa, kla_obj "<lambda>" QL { posonlyargs := [], args := [], vararg := none, kwonlyargs := [], kw_defaults := [], kwarg := none, defaults := [] } (lamAt (B249 w) 0).1 (lamAt (B249 w) 0).2 [(Str.ofString "vlan", cb), (Str.ofString "private", ca)] pm c' ctv) :: (c', oc) :: ([(ca, oa), (cb, ob)] ++ rest)) := by
  simp only [B249, takeBody, lamAt, lamIf, ifB, retE, orE, argE, lamE, List.getD_cons_succ, List.getD_cons_zero, Nat.reduceAdd, List.getD_eq_getElem?_getD, List.getElem?_cons_succ, List.getElem?_cons_zero, Option.getD_some]
  intro dp un gd cn cs a ccd cl outer A₀ h₀ L m s Q E cx hd hu land
  obtain ⟨B, F, X, N, T, hk⟩ := cx
  have hp0 := hp
  obtain ⟨dx, i1, i2, i3, i4, j1, j2, j3, j4, n9, mP, mD⟩ := hp
  simp only [List.cons_append, List.nil_append] at N
  refine wpAny_call ?_
  k_dflt (walk_at "mine lam")
  k_steps
  all_goals (
    refine' land _ ⟨_, _, _, _, _, ?ya, ?yb, ?ys⟩ _ _ _ _ _ _ _ ?qC ?qF ?qR ?qU
    case qR => assumption
    case qC => assumption
    case qF => assumption
    case qU => assumption
    case ys => walk_at "mine sub"
    case ya => assumption
    case yb => assumption)

theorem lam1 {fa c' sd ca : Addr} {oc oa : Obj} {pm ctv : Value} {vs : Array Value} {t : Tok} {ps : Array Value} {rest : List (Addr × Obj)} {x y : Int} {tx ty : Tok} {k : Nat} (C : CodeHd base 248 246) (od' : oc.data = .fields vs) (ov : vs[1]? = some (.str QL t)) (hy : 0 ≤ y) (hy2 : y < 2147483647)
    (n46 : @Ne Nat 246 sd) (nfa : @Ne Nat fa sd) (nc : @Ne Nat c' sd) (nca : @Ne Nat ca sd) (osd : ∀ q ∈ rest, q.1 ≠ sd) (hp : PrivAt rest P kd pd od md) (e0 : oa.data = .cell (some (.ref P))) (hK : DictAt w rest kd (IS DK)) (hP : DictAt w rest pd (II DP)) (hz : DK.length < 63) (own : ∀ x ∈ DK.map Prod.fst, ∃ y, DP.lookup x = some y) (r1 : DK.lookup 300 = none) (k1 : EkS DK DP "isolated" [100]) :
    CallF w mean mg mb base fa (InvR sd ps ((c', oc) :: rest)) ((246, tabObj ps) :: (sd, srcOf x y tx ty k) :: (fa, kla_obj "<lambda>" QL { posonlyargs := [], args := [], vararg := none, kwonlyargs := [], kw_defaults := [], kwarg := none, defaults := [] } (lamAt (B249 w) 1).1 (lamAt (B249 w) 1).2 [(Str.ofString "private", ca)] pm c' ctv) :: (c', oc) :: ([(ca, oa)] ++ rest)) := by
  simp only [B249, takeBody, lamAt, lamIf, ifB, retE, orE, argE, lamE, List.getD_cons_succ, List.getD_cons_zero, Nat.reduceAdd, List.getD_eq_getElem?_getD, List.getElem?_cons_succ, List.getElem?_cons_zero, Option.getD_some]
  intro dp un gd cn cs a ccd cl outer A₀ h₀ L m s Q E cx hd hu land
  obtain ⟨B, F, X, N, T, hk⟩ := cx
  have hp0 := hp
  obtain ⟨dx, i1, i2, i3, i4, j1, j2, j3, j4, n9, mP, mD⟩ := hp
  simp only [List.cons_append, List.nil_append] at N
  refine wpAny_call ?_
  k_dflt (walk_at "mine lam")
  k_steps
  all_goals (
    refine' land _ ⟨_, _, _, _, _, ?ya, ?yb, ?ys⟩ _ _ _ _ _ _ _ ?qC ?qF ?qR ?qU
    case qR => assumption
    case qC => assumption
    case qF => assumption
    case qU => assumption
    case ys => walk_at "mine sub"
    case ya => assumption
    case yb => assumption)

theorem lam2 {fa c' sd ca cb : Addr} {oc oa ob : Obj} {pm ctv : Value} {vs : Array Value} {t : Tok} {ps : Array Value} {rest : List (Addr × Obj)} {x y : Int} {tx ty : Tok} {k : Nat} (C : CodeHd base 248 246) (od' : oc.data = .fields vs) (ov : vs[1]? = some (.str QL t)) (hy : 0 ≤ y) (hy2 : y < 2147483647)
    (n46 : @Ne Nat 246 sd) (nfa : @Ne Nat fa sd) (nc : @Ne Nat c' sd) (nca : @Ne Nat ca sd) (ncb : @Ne Nat cb sd) (osd : ∀ q ∈ rest, q.1 ≠ sd) (hp : PrivAt rest P kd pd od md) (e0 : oa.data = .cell (some (.ref P))) (e1 : ob.data = .cell (some (.ref sd))) (hK : DictAt w rest kd (IS DK)) (hP : DictAt w rest pd (II DP)) (hz : DK.length < 63) (own : ∀ x ∈ DK.map Prod.fst, ∃ y, DP.lookup x = some y) (r1 : DK.lookup 300 = none) (k2 : EkS DK DP "community" [101, 50]) :
    CallF w mean mg mb base fa (InvR sd ps ((c', oc) :: rest)) ((246, tabObj ps) :: (sd, srcOf x y tx ty k) :: (fa, kla_obj "<lambda>" QL { posonlyargs := [], args := [], vararg := none, kwonlyargs := [], kw_defaults := [], kwarg := none, defaults := [] } (lamAt (B249 w) 2).1 (lamAt (B249 w) 2).2 [(Str.ofString "source", cb), (Str.ofString "private", ca)] pm c' ctv) :: (c', oc) :: ([(ca, oa), (cb, ob)] ++ rest)) := by
  simp only [B249, takeBody, lamAt, lamIf, ifB, retE, orE, argE, lamE, List.getD_cons_succ, List.getD_cons_zero, Nat.reduceAdd, List.getD_eq_getElem?_getD, List.getElem?_cons_succ, List.getElem?_cons_zero, Option.getD_some]
  intro dp un gd cn cs a ccd cl outer A₀ h₀ L m s Q E cx hd hu land
  obtain ⟨B, F, X, N, T, hk⟩ := cx
  have hp0 := hp
  obtain ⟨dx, i1, i2, i3, i4, j1, j2, j3, j4, n9, mP, mD⟩ := hp
  simp only [List.cons_append, List.nil_append] at N
  refine wpAny_call ?_
  k_dflt (walk_at "mine lam")
  k_steps
  all_goals (
    refine' land _ ⟨_, _, _, _, _, ?ya, ?yb, ?ys⟩ _ _ _ _ _ _ _ ?qC ?qF ?qR ?qU
    case qR => assumption
    case qC => assumption
    case qF => assumption
    case qU => assumption
    case ys => walk_at "mine sub"
    case ya => assumption
    case yb => assumption)

theorem lam3 {fa c' sd ca : Addr} {oc oa : Obj} {pm ctv : Value} {vs : Array Value} {t : Tok} {ps : Array Value} {rest : List (Addr × Obj)} {x y : Int} {tx ty : Tok} {k : Nat} (C : CodeHd base 248 246) (od' : oc.data = .fields vs) (ov : vs[1]? = some (.str QL t)) (hy : 0 ≤ y) (hy2 : y < 2147483647)
    (n46 : @Ne Nat 246 sd) (nfa : @Ne Nat fa sd) (nc : @Ne Nat c' sd) (nca : @Ne Nat ca sd) (osd : ∀ q ∈ rest, q.1 ≠ sd) (hp : PrivAt rest P kd pd od md) (e0 : oa.data = .cell (some (.ref P))) (hK : DictAt w rest kd (IS DK)) (hP : DictAt w rest pd (II DP)) (hz : DK.length < 63) (own : ∀ x ∈ DK.map Prod.fst, ∃ y, DP.lookup x = some y) (r1 : DK.lookup 300 = none) (k3 : EkS DK DP "alone" [200]) :
    CallF w mean mg mb base fa (InvR sd ps ((c', oc) :: rest)) ((246, tabObj ps) :: (sd, srcOf x y tx ty k) :: (fa, kla_obj "<lambda>" QL { posonlyargs := [], args := [], vararg := none, kwonlyargs := [], kw_defaults := [], kwarg := none, defaults := [] } (lamAt (B249 w) 3).1 (lamAt (B249 w) 3).2 [(Str.ofString "private", ca)] pm c' ctv) :: (c', oc) :: ([(ca, oa)] ++ rest)) := by
  simp only [B249, takeBody, lamAt, lamIf, ifB, retE, orE, argE, lamE, List.getD_cons_succ, List.getD_cons_zero, Nat.reduceAdd, List.getD_eq_getElem?_getD, List.getElem?_cons_succ, List.getElem?_cons_zero, Option.getD_some]
  intro dp un gd cn cs a ccd cl outer A₀ h₀ L m s Q E cx hd hu land
  obtain ⟨B, F, X, N, T, hk⟩ := cx
  have hp0 := hp
  obtain ⟨dx, i1, i2, i3, i4, j1, j2, j3, j4, n9, mP, mD⟩ := hp
  simp only [List.cons_append, List.nil_append] at N
  refine wpAny_call ?_
  k_dflt (walk_at "mine lam")
  k_steps
  all_goals (
    refine' land _ ⟨_, _, _, _, _, ?ya, ?yb, ?ys⟩ _ _ _ _ _ _ _ ?qC ?qF ?qR ?qU
    case qR => assumption
    case qC => assumption
    case qF => assumption
    case qU => assumption
    case ys => walk_at "mine sub"
    case ya => assumption
    case yb => assumption)

theorem lam4 {fa c' sd ca cb : Addr} {oc oa ob : Obj} {pm ctv : Value} {vs : Array Value} {t : Tok} {ps : Array Value} {rest : List (Addr × Obj)} {x y : Int} {tx ty : Tok} {k : Nat} (C : CodeHd base 248 246) (od' : oc.data = .fields vs) (ov : vs[1]? = some (.str QL t)) (hy : 0 ≤ y) (hy2 : y < 2147483647)
    (n46 : @Ne Nat 246 sd) (nfa : @Ne Nat fa sd) (nc : @Ne Nat c' sd) (nca : @Ne Nat ca sd) (ncb : @Ne Nat cb sd) (osd : ∀ q ∈ rest, q.1 ≠ sd) (hp : PrivAt rest P kd pd od md) (e0 : oa.data = .cell (some (.ref P))) (e1 : ob.data = .cell (some (.ref sd))) (hK : DictAt w rest kd (IS DK)) (hH : DictAt w rest od (II DH)) (hM : DictAt w rest md (II DM)) (k4 : EhA DK [100, 50]) :
    CallF w mean mg mb base fa (InvR sd ps ((c', oc) :: rest)) ((246, tabObj ps) :: (sd, srcOf x y tx ty k) :: (fa, kla_obj "<lambda>" QL { posonlyargs := [], args := [], vararg := none, kwonlyargs := [], kw_defaults := [], kwarg := none, defaults := [] } (lamAt (B249 w) 4).1 (lamAt (B249 w) 4).2 [(Str.ofString "source", cb), (Str.ofString "private", ca)] pm c' ctv) :: (c', oc) :: ([(ca, oa), (cb, ob)] ++ rest)) := by
  simp only [B249, takeBody, lamAt, lamIf, ifB, retE, orE, argE, lamE, List.getD_cons_succ, List.getD_cons_zero, Nat.reduceAdd, List.getD_eq_getElem?_getD, List.getElem?_cons_succ, List.getElem?_cons_zero, Option.getD_some]
  intro dp un gd cn cs a ccd cl outer A₀ h₀ L m s Q E cx hd hu land
  obtain ⟨B, F, X, N, T, hk⟩ := cx
  have hp0 := hp
  obtain ⟨dx, i1, i2, i3, i4, j1, j2, j3, j4, n9, mP, mD⟩ := hp
  simp only [List.cons_append, List.nil_append] at N
  refine wpAny_call ?_
  k_dflt (walk_at "mine lam")
  k_steps
  all_goals (
    refine' land _ ⟨_, _, _, _, _, ?ya, ?yb, ?ys⟩ _ _ _ _ _ _ _ ?qC ?qF ?qR ?qU
    case qR => assumption
    case qC => assumption
    case qF => assumption
    case qU => assumption
    case ys => walk_at "mine sub"
    case ya => assumption
    case yb => assumption)

theorem lam5 {fa c' sd ca cb : Addr} {oc oa ob : Obj} {pm ctv : Value} {vs : Array Value} {t : Tok} {ps : Array Value} {rest : List (Addr × Obj)} {x y : Int} {tx ty : Tok} {k : Nat} (C : CodeHd base 248 246) (od' : oc.data = .fields vs) (ov : vs[1]? = some (.str QL t)) (hy : 0 ≤ y) (hy2 : y < 2147483647)
    (n46 : @Ne Nat 246 sd) (nfa : @Ne Nat fa sd) (nc : @Ne Nat c' sd) (nca : @Ne Nat ca sd) (ncb : @Ne Nat cb sd) (osd : ∀ q ∈ rest, q.1 ≠ sd) (hp : PrivAt rest P kd pd od md) (e0 : oa.data = .cell (some (.ref P))) (e1 : ob.data = .cell (some (.ref sd))) (hK : DictAt w rest kd (IS DK)) (k5 : EpS DK [101, 50]) :
    CallF w mean mg mb base fa (InvR sd ps ((c', oc) :: rest)) ((246, tabObj ps) :: (sd, srcOf x y tx ty k) :: (fa, kla_obj "<lambda>" QL { posonlyargs := [], args := [], vararg := none, kwonlyargs := [], kw_defaults := [], kwarg := none, defaults := [] } (lamAt (B249 w) 5).1 (lamAt (B249 w) 5).2 [(Str.ofString "source", cb), (Str.ofString "private", ca)] pm c' ctv) :: (c', oc) :: ([(ca, oa), (cb, ob)] ++ rest)) := by
  simp only [B249, takeBody, lamAt, lamIf, ifB, retE, orE, argE, lamE, List.getD_cons_succ, List.getD_cons_zero, Nat.reduceAdd, List.getD_eq_getElem?_getD, List.getElem?_cons_succ, List.getElem?_cons_zero, Option.getD_some]
  intro dp un gd cn cs a ccd cl outer A₀ h₀ L m s Q E cx hd hu land
  obtain ⟨B, F, X, N, T, hk⟩ := cx
  have hp0 := hp
  obtain ⟨dx, i1, i2, i3, i4, j1, j2, j3, j4, n9, mP, mD⟩ := hp
  simp only [List.cons_append, List.nil_append] at N
  refine wpAny_call ?_
  k_dflt (walk_at "mine lam")
  k_steps
  all_goals (
    refine' land _ ⟨_, _, _, _, _, ?ya, ?yb, ?ys⟩ _ _ _ _ _ _ _ ?qC ?qF ?qR ?qU
    case qR => assumption
    case qC => assumption
    case qF => assumption
    case qU => assumption
    case ys => walk_at "mine sub"
    case ya => assumption
    case yb => assumption)

theorem lam6 {td : Addr} {fa c' sd ca cb cc : Addr} {oc oa ob oo : Obj} {pm ctv : Value} {vs : Array Value} {t : Tok} {ps : Array Value} {rest : List (Addr × Obj)} {x y : Int} {tx ty : Tok} {k : Nat} (C : CodeHd base 248 246) (od' : oc.data = .fields vs) (ov : vs[1]? = some (.str QL t)) (hy : 0 ≤ y) (hy2 : y < 2147483647)
    (n46 : @Ne Nat 246 sd) (nfa : @Ne Nat fa sd) (nc : @Ne Nat c' sd) (nca : @Ne Nat ca sd) (ncb : @Ne Nat cb sd) (ncc : @Ne Nat cc sd) (osd : ∀ q ∈ rest, q.1 ≠ sd) (hp : PrivAt rest P kd pd od md) (e0 : oa.data = .cell (some (.ref P))) (e1 : ob.data = .cell (some (.ref sd))) (e2 : oo.data = .cell (some (.ref td)))  {ns : List Int} {ys : List Value} {kk : Nat} (hK : DictAt w rest kd (IS DK)) (hH : DictAt w rest od (II DH)) (hM : DictAt w rest md (II DM)) (r3 : (DK.lookup 101).getD "plain" = "isolated") (k6 : EhB DH DM ns) (hys : IntsAre ys ns) (l0 : 0 < ns.length) (l1 : ns.length < 64) (ntd : @Ne Nat td sd) :
    CallF w mean mg mb base fa (InvR sd ps ((c', oc) :: rest)) ((246, tabObj ps) :: (sd, srcOf x y tx ty k) :: (fa, kla_obj "<lambda>" QL { posonlyargs := [], args := [], vararg := none, kwonlyargs := [], kw_defaults := [], kwarg := none, defaults := [] } (lamAt (B249 w) 6).1 (lamAt (B249 w) 6).2 [(Str.ofString "taken", cc), (Str.ofString "source", cb), (Str.ofString "private", ca)] pm c' ctv) :: (c', oc) :: ([(ca, oa), (cb, ob), (cc, oo), (td, listOf ys.toArray kk)] ++ rest)) := by
  simp only [B249, takeBody, lamAt, lamIf, ifB, retE, orE, argE, lamE, List.getD_cons_succ, List.getD_cons_zero, Nat.reduceAdd, List.getD_eq_getElem?_getD, List.getElem?_cons_succ, List.getElem?_cons_zero, Option.getD_some]
  intro dp un gd cn cs a ccd cl outer A₀ h₀ L m s Q E cx hd hu land
  obtain ⟨B, F, X, N, T, hk⟩ := cx
  have hp0 := hp
  obtain ⟨dx, i1, i2, i3, i4, j1, j2, j3, j4, n9, mP, mD⟩ := hp
  simp only [List.cons_append, List.nil_append] at N
  refine wpAny_call ?_
  k_dflt (walk_at "mine lam")
  k_steps
  all_goals (
    refine' land _ ⟨_, _, _, _, _, ?ya, ?yb, ?ys⟩ _ _ _ _ _ _ _ ?qC ?qF ?qR ?qU
    case qR => assumption
    case qC => assumption
    case qF => assumption
    case qU => assumption
    case ys => walk_at "mine sub"
    case ya => assumption
    case yb => assumption)
end
end Mine
namespace Mine
theorem rowsP35_0 : True := by
  k_with_none
  k_with "mine down" => (first | exact fun _ h => h | (refine dn ?_; walk_at "mine down"))
  k_with "k_ne" => (first | with_reducible assumption | exact Ne.symm (by with_reducible assumption) | exact ltm_ne (by with_reducible assumption) (by k_mem) | exact ltm_en (by with_reducible assumption) (by k_mem) | exact Nat.ne_of_lt (by with_reducible assumption) | exact Nat.ne_of_gt (by with_reducible assumption) | exact ltm_c1 (by with_reducible assumption) (by k_mem) | exact ltm_d1 (by with_reducible assumption) (by k_mem) | exact ltm_c2 (by with_reducible assumption) (by k_mem) | exact ltm_d2 (by with_reducible assumption) (by k_mem) | exact ltm_c3 (by with_reducible assumption) (by k_mem) | exact ltm_d3 (by with_reducible assumption) (by k_mem) | exact ltm_c4 (by with_reducible assumption) (by k_mem) | exact ltm_d4 (by with_reducible assumption) (by k_mem) | exact ltm_c5 (by with_reducible assumption) (by k_mem) | exact ltm_d5 (by with_reducible assumption) (by k_mem) | (refine neN ?_; (try dsimp only); omega))
  k_with "k_all" => (first | exact ltm_all (by with_reducible assumption) (by walk_at "mine down") | exact ltm_a1 (by with_reducible assumption) (by walk_at "mine down") | exact ltm_a2 (by with_reducible assumption) (by walk_at "mine down") | exact ltm_a3 (by with_reducible assumption) (by walk_at "mine down") | exact ltm_a4 (by with_reducible assumption) (by walk_at "mine down") | exact ltm_a5 (by with_reducible assumption) (by walk_at "mine down"))
  trivial
theorem mem_one {p a : Int} (h : p ∈ [a]) : p = a := List.mem_singleton.mp h
theorem mem_two {p a b : Int} (h : p ∈ [a, b]) : p = a ∨ p = b := by
  rcases List.mem_cons.mp h with h | h
  · exact .inl h
  · exact .inr (mem_one h)
section
variable {R1 R2 : List (Int × Str)} (h1 : R1 ∈ R1s) (h2 : R2 ∈ R2s)
theorem f_k1 (h1 : R1 ∈ R1s) (h2 : R2 ∈ R2s) : EkS (kindsOf R1 R2) (primsOf R1 R2) "isolated" [100] := fun p hp => by
  have e := mem_one hp
  subst e
  obtain ⟨a, _, b, _⟩ := f_r3 R1 h1 R2 h2
  exact .inr (.inr (.inr ⟨b, rfl, a, f_sec R1 h1 R2 h2⟩))
theorem f_k2 (h1 : R1 ∈ R1s) (h2 : R2 ∈ R2s) : EkS (kindsOf R1 R2) (primsOf R1 R2) "community" [101, 50] := fun p hp => by
  obtain ⟨_, a, _, _, b⟩ := f_r3 R1 h1 R2 h2
  rcases mem_two hp with e | e
  · subst e; exact .inr (.inl ⟨a, rfl⟩)
  · subst e; exact .inl ⟨b, rfl⟩
theorem f_k3 (h1 : R1 ∈ R1s) (h2 : R2 ∈ R2s) : EkS (kindsOf R1 R2) (primsOf R1 R2) "alone" [200] := fun p hp => by
  have e := mem_one hp
  subst e
  obtain ⟨_, _, _, b, _⟩ := f_r3 R1 h1 R2 h2
  exact .inr (.inr (.inl ⟨b, rfl⟩))
theorem f_k4 (h1 : R1 ∈ R1s) (h2 : R2 ∈ R2s) : EhA (kindsOf R1 R2) [100, 50] := fun p hp => by
  obtain ⟨_, _, a, _, b⟩ := f_r3 R1 h1 R2 h2
  rcases mem_two hp with e | e
  · subst e; exact .inr a
  · subst e; exact .inl b
theorem f_k5 (h1 : R1 ∈ R1s) (h2 : R2 ∈ R2s) : EpS (kindsOf R1 R2) [101, 50] := fun p hp => by
  obtain ⟨_, a, _, _, b⟩ := f_r3 R1 h1 R2 h2
  rcases mem_two hp with e | e
  · subst e; exact .inr a
  · subst e; exact .inl b
theorem f_k6 {PT : List (Int × Told)} (nd : (PT.map Prod.fst).Nodup) : EhB (hostsOf PT) (promOf PT) (takenF PT) := fun p hp => by
  obtain ⟨⟨k, τ⟩, hm, e⟩ := List.mem_map.mp hp
  cases e
  obtain ⟨hm, ht⟩ := List.mem_filter.mp hm
  obtain ⟨a, b⟩ := hosts_at nd hm
  cases τ with
  | host v => exact .inl ⟨v, a⟩
  | heard v => exact .inr ⟨a, v, b⟩
  | other => cases ht
theorem f_ok4 (h1 : R1 ∈ R1s) (h2 : R2 ∈ R2s) {PT : List (Int × Told)} (good : ∀ k τ, (k, τ) ∈ PT → GoodT R1 R2 τ) : ∀ k x, (hostsOf PT).lookup k = some x → ∃ y, (primsOf R1 R2).lookup x = some y := fun k x h => by
  obtain ⟨k', hm⟩ := hosts_in h
  exact Option.isSome_iff_exists.mp (f_secs R1 h1 R2 h2 x (good k' _ hm))
theorem f_own' (h1 : R1 ∈ R1s) (h2 : R2 ∈ R2s) : ∀ x ∈ (kindsOf R1 R2).map Prod.fst, ∃ y, (primsOf R1 R2).lookup x = some y := fun x h => Option.isSome_iff_exists.mp (f_own R1 h1 R2 h2 x h)
theorem look_none_iff {α β : Type} {v : Int} : ∀ {a : List (Int × α)} {b : List (Int × β)}, a.map Prod.fst = b.map Prod.fst → (a.lookup v = none ↔ b.lookup v = none)
  | [], [], _ => ⟨fun _ => rfl, fun _ => rfl⟩
  | [], _ :: _, h => by cases h
  | _ :: _, [], h => by cases h
  | (k, x) :: a, (k', y) :: b, h => by
    have h' : k = k' ∧ List.map Prod.fst a = List.map Prod.fst b := ⟨(List.cons.inj h).1, (List.cons.inj h).2⟩
    obtain ⟨e', h'⟩ := h'
    subst e'
    have ih := look_none_iff (v := v) h'
    rw [List.lookup_cons, List.lookup_cons]
    by_cases hb : (v == k) = true
    · rw [hb]
      exact Iff.intro (fun q => absurd q (by simp)) (fun q => absurd q (by simp))
    · rw [Bool.eq_false_iff.mpr hb]
      exact ih
theorem f_kp (h1 : R1 ∈ R1s) (h2 : R2 ∈ R2s) : ∀ v, (kindsOf R1 R2).lookup v = none ↔ (primsOf R1 R2).lookup v = none := fun v => look_none_iff (f_keys R1 h1 R2 h2)
theorem f_r0' (h1 : R1 ∈ R1s) (h2 : R2 ∈ R2s) : ∀ v ∈ ([100, 101, 200] : List Int), ∃ z, (kindsOf R1 R2).lookup v = some z := fun v h => Option.isSome_iff_exists.mp (f_r0 R1 h1 R2 h2 v h)
end
end Mine
namespace Mine
theorem rowsP36_0 : True := by
  k_with_none
  k_with "mine down" => (first | exact fun _ h => h | (refine dn ?_; walk_at "mine down"))
  k_with "k_ne" => (first | with_reducible assumption | exact Ne.symm (by with_reducible assumption) | exact ltm_ne (by with_reducible assumption) (by k_mem) | exact ltm_en (by with_reducible assumption) (by k_mem) | exact Nat.ne_of_lt (by with_reducible assumption) | exact Nat.ne_of_gt (by with_reducible assumption) | exact ltm_c1 (by with_reducible assumption) (by k_mem) | exact ltm_d1 (by with_reducible assumption) (by k_mem) | exact ltm_c2 (by with_reducible assumption) (by k_mem) | exact ltm_d2 (by with_reducible assumption) (by k_mem) | exact ltm_c3 (by with_reducible assumption) (by k_mem) | exact ltm_d3 (by with_reducible assumption) (by k_mem) | exact ltm_c4 (by with_reducible assumption) (by k_mem) | exact ltm_d4 (by with_reducible assumption) (by k_mem) | exact ltm_c5 (by with_reducible assumption) (by k_mem) | exact ltm_d5 (by with_reducible assumption) (by k_mem) | (refine neN ?_; (try dsimp only); omega))
  k_with "k_all" => (first | exact ltm_all (by with_reducible assumption) (by walk_at "mine down") | exact ltm_a1 (by with_reducible assumption) (by walk_at "mine down") | exact ltm_a2 (by with_reducible assumption) (by walk_at "mine down") | exact ltm_a3 (by with_reducible assumption) (by walk_at "mine down") | exact ltm_a4 (by with_reducible assumption) (by walk_at "mine down") | exact ltm_a5 (by with_reducible assumption) (by walk_at "mine down"))
  trivial
/-- a row of a family that may be told -/
abbrev RowOk (DK : List (Int × Str)) (DP : List (Int × Int)) (p : Int) (r : Int × Str) : Prop :=
  DK.lookup r.1 = none ∧ DP.lookup r.1 = none ∧ (DK.lookup p).getD "plain" = "primary" ∧ (r.2 = "community" ∨ (r.2 = "isolated" ∧ secF DK DP p = [])) ∧ DK.length ≤ 50 ∧ DP.length ≤ 50 ∧ ∀ x ∈ DK.map Prod.fst, (DP.lookup x).isSome = true
abbrev bK1 : List (Int × Str) := [] ++ [((100 : Int), ("primary" : Str))]
abbrev bP1 : List (Int × Int) := [] ++ [((100 : Int), (100 : Int))]
abbrev bK2 (R1 : List (Int × Str)) : List (Int × Str) := (bK1 ++ R1) ++ [((200 : Int), ("primary" : Str))]
abbrev bP2 (R1 : List (Int × Str)) : List (Int × Int) := (bP1 ++ R1.map fun r => (r.1, (100 : Int))) ++ [((200 : Int), (200 : Int))]
theorem f_row1 : ∀ R1 ∈ R1s, ∀ i ∈ List.range R1.length, RowOk (bK1 ++ R1.take i) (bP1 ++ (R1.take i).map fun r => (r.1, (100 : Int))) 100 (R1.getD i (0, "")) := by decide +kernel
theorem f_row2 : ∀ R1 ∈ R1s, ∀ R2 ∈ R2s, ∀ i ∈ List.range R2.length, RowOk (bK2 R1 ++ R2.take i) (bP2 R1 ++ (R2.take i).map fun r => (r.1, (200 : Int))) 200 (R2.getD i (0, "")) := by decide +kernel
theorem f_mid : ∀ R1 ∈ R1s, (bK1 ++ R1).lookup 200 = none ∧ (bP1 ++ R1.map fun r => (r.1, (100 : Int))).lookup 200 = none ∧ (bK1 ++ R1).length ≤ 50 ∧ (bP1 ++ R1.map fun r => (r.1, (100 : Int))).length ≤ 50 := by decide +kernel
theorem row_at {R : List (Int × Str)} {i : Nat} {v : Int} {k : Str} (h : R[i]? = some (v, k)) : i ∈ List.range R.length ∧ R.getD i (0, "") = (v, k) := by
  obtain ⟨hl, e⟩ := List.getElem?_eq_some_iff.mp h
  exact ⟨List.mem_range.mpr hl, by rw [List.getD_eq_getElem?_getD, h]; rfl⟩
theorem own_of {DK : List (Int × Str)} {DP : List (Int × Int)} (h : ∀ x ∈ DK.map Prod.fst, (DP.lookup x).isSome = true) : ∀ x ∈ DK.map Prod.fst, ∃ y, DP.lookup x = some y := fun x hx => Option.isSome_iff_exists.mp (h x hx)
theorem take_K {B R : List (Int × Str)} {i : Nat} {v : Int} {k : Str} (h : R[i]? = some (v, k)) : (B ++ R.take i) ++ [(v, k)] = B ++ R.take (i + 1) := by rw [List.take_add_one, h, List.append_assoc]; rfl
theorem take_P {B : List (Int × Int)} {R : List (Int × Str)} {i : Nat} {v p : Int} {k : Str} (h : R[i]? = some (v, k)) : (B ++ (R.take i).map fun r => (r.1, p)) ++ [(v, p)] = B ++ (R.take (i + 1)).map fun r => (r.1, p) := by rw [List.take_add_one, h, List.append_assoc, List.map_append]; rfl

theorem hosts_snoc {PT : List (Int × Told)} {k : Int} {τ : Told} : hostsOf (PT ++ [(k, τ)]) = hostsOf PT ++ (match τ with | .host v => [(k, v)] | _ => []) := by
  unfold hostsOf; rw [List.filterMap_append]; cases τ <;> rfl
theorem prom_snoc {PT : List (Int × Told)} {k : Int} {τ : Told} : promOf (PT ++ [(k, τ)]) = promOf PT ++ (match τ with | .heard v => [(k, v)] | _ => []) := by
  unfold promOf; rw [List.filterMap_append]; cases τ <;> rfl
theorem PortsIn.snoc {news : List (Addr × Obj)} {kvs : List (Int × Value)} {PT : List (Int × Told)} (h : PortsIn news kvs PT) {k : Int} {a : Addr} {τ : Told} (t : ToldAt news a τ) : PortsIn news (kvs ++ [(k, .ref a)]) (PT ++ [(k, τ)]) := by
  induction h with
  | nil => exact .cons t .nil
  | cons q _ ih => exact .cons q ih
theorem no_val {kvs : List (Int × Value)} {k : Int} (h : ∀ q ∈ kvs.map Prod.fst, q ≠ k) : valueAt kvs k = none := by
  unfold valueAt
  rw [List.find?_eq_none.mpr fun q hq => by simpa using h q.1 (List.mem_map.mpr ⟨q, hq, rfl⟩)]
  rfl
theorem val_snoc {kvs : List (Int × Value)} {k : Int} {v : Value} (h : valueAt kvs k = none) : valueAt (kvs ++ [(k, v)]) k = some v := by
  unfold valueAt at h ⊢
  rw [List.find?_append]
  cases e : kvs.find? (fun kv => decide (kv.1 = k)) with
  | some q => rw [e] at h; cases h
  | none => simp
end Mine
namespace Mine
theorem rowsP37_0 : True := by
  k_with_none
  k_with "mine down" => (first | exact fun _ h => h | (refine dn ?_; walk_at "mine down"))
  k_with "k_ne" => (first | with_reducible assumption | exact Ne.symm (by with_reducible assumption) | exact ltm_ne (by with_reducible assumption) (by k_mem) | exact ltm_en (by with_reducible assumption) (by k_mem) | exact Nat.ne_of_lt (by with_reducible assumption) | exact Nat.ne_of_gt (by with_reducible assumption) | exact ltm_c1 (by with_reducible assumption) (by k_mem) | exact ltm_d1 (by with_reducible assumption) (by k_mem) | exact ltm_c2 (by with_reducible assumption) (by k_mem) | exact ltm_d2 (by with_reducible assumption) (by k_mem) | exact ltm_c3 (by with_reducible assumption) (by k_mem) | exact ltm_d3 (by with_reducible assumption) (by k_mem) | exact ltm_c4 (by with_reducible assumption) (by k_mem) | exact ltm_d4 (by with_reducible assumption) (by k_mem) | exact ltm_c5 (by with_reducible assumption) (by k_mem) | exact ltm_d5 (by with_reducible assumption) (by k_mem) | (refine neN ?_; (try dsimp only); omega))
  k_with "k_all" => (first | exact ltm_all (by with_reducible assumption) (by walk_at "mine down") | exact ltm_a1 (by with_reducible assumption) (by walk_at "mine down") | exact ltm_a2 (by with_reducible assumption) (by walk_at "mine down") | exact ltm_a3 (by with_reducible assumption) (by walk_at "mine down") | exact ltm_a4 (by with_reducible assumption) (by walk_at "mine down") | exact ltm_a5 (by with_reducible assumption) (by walk_at "mine down"))
  trivial
theorem fill37 : (hd.heap_1 = hd.heap_1) ∧ (PySem.Challenge.rw_pb0538_01 = PySem.Challenge.rw_pb0538_01) := by k_fill; exact ⟨rfl, rfl⟩
theorem rowsP37_1 : True := by
  k_with "mine cx" => exact ⟨by k_asm, by k_asm, by k_asm, by k_asm, by k_asm, by first | exact rfl | assumption⟩
  k_with "mine sub" => (first | exact fun _ h => h | exact sub_skip (fun _ h => h) | exact sub_skip (sub_skip (fun _ h => h)) | exact sub_skip (sub_skip (sub_skip (fun _ h => h))) | exact sub_skip (sub_skip (sub_skip (sub_skip (fun _ h => h)))) | exact sub_skip (sub_skip (sub_skip (sub_skip (sub_skip (fun _ h => h))))) | exact sub_skip (sub_skip (sub_skip (sub_skip (sub_skip (sub_skip (fun _ h => h)))))) | exact sub_keep (sub_skip (fun _ h => h)) | exact sub_keep (sub_skip (sub_skip (fun _ h => h))) | exact sub_keep (sub_skip (sub_skip (sub_skip (fun _ h => h)))) | exact sub_keep (sub_skip (sub_skip (sub_skip (sub_skip (fun _ h => h))))) | exact sub_keep (sub_skip (sub_skip (sub_skip (sub_skip (sub_skip (fun _ h => h)))))) | exact sub_keep (sub_skip (sub_skip (sub_skip (sub_skip (sub_skip (sub_skip (fun _ h => h))))))))
  k_with "mine priv" => (first | assumption | exact PrivAt.mono (by assumption) (by walk_at "mine sub"))
  k_with "mine dict" => (first | assumption | exact DictAt.mono (by assumption) (by walk_at "mine sub"))
  k_with "mine room" => ((try simp only [depth_under_make, depth_under_kw, depth_in1, depth_deeper, depth_caller, units_in1, units_deeper, Around.mark_units, units_caller]); (try dsimp only [ktrTop]); omega)
  k_with "k_all" => assumption
  k_with "k_mem" => (first | exact List.Mem.head _ | ktr_member | (refine' List.mem_cons_of_mem _ ?_; k_mem))
  k_with "mine fresh" => (first | assumption | exact ltm_all (by with_reducible assumption) (by walk_at "mine down") | exact lt_ne (by assumption) | exact allLt_ne (by k_asm) | exact off1_mem (by k_asm) | (rename _ ∧ _ => o9; first | exact off1_mem o9.2 | exact off1_mem o9.2.2 | exact off1_mem o9.2.2.2 | exact allLt_ne o9.2 | exact allLt_ne o9.2.2 | exact allLt_ne o9.2.2.2))
  k_with "mine pull" => (repeat' (first | exact Pull.head | refine' Pull.tail ?_))
  k_with "mine in" => (first | exact List.Mem.head _ | (refine' List.Mem.tail _ ?_; walk_at "mine in"))
  k_with "mine rows" => (first | exact RowsIn.nil | (refine' RowsIn.cons ⟨_, _, ?zqm⟩ ?_; (case zqm => walk_at "mine in"); walk_at "mine rows"))
  k_with "mine off" => (first | assumption | (refine List.forall_mem_cons.mpr ⟨by k_ne, ?_⟩; walk_at "mine off"))
  k_with "mine fam" => (refine' ⟨_, _, _, _, _, _, _, ?zqm1, ?zqm2, ?zqm3, ⟨_, _, ?zqm4, ?zqm5⟩, _, _, ?zqm6, ?zqm7⟩; (case zqm1 => walk_at "mine in"); (case zqm2 => walk_at "mine in"); (case zqm3 => walk_at "mine in"); (case zqm4 => walk_at "mine in"); (case zqm5 => walk_at "mine rows"); (case zqm6 => walk_at "mine in"); (case zqm7 => walk_at "mine rows"))
  k_with "mine enterC" => (refine' code_defC ?zqk1 ?zqk2 ?zqk3 ?zqk4 ?zqk5 ?zqkA ?zqkF ?zqkK ?zqk6 ?zqk7 ?zqk8 ?zqk9 ?zqkB ?zqkD ?_ ?zqc2 ?zqc3 ?zqc4; (case zqkA => exact rfl); (case zqkF => exact rfl); (case zqkK => assumption); (case zqk1 => k_asm); (case zqk2 => k_asm); (case zqk3 => k_asm); (case zqk4 => k_asm); (case zqk5 => k_asm); (case zqk6 => k_is); (case zqk7 => k_is); (case zqk8 => ktr_room); (case zqk9 => exact BindsTo.of_eq rfl); (case zqkB => exact rfl); (case zqkD => decide +kernel); (case zqc2 => exact rfl); (case zqc3 => exact rfl); (case zqc4 => exact rfl); k_whole; intro g' L' h' tk' cells' FG' F' N' Y' B' X' T' l1; (try k_lt l1); k_cells Y'; (try simp only [List.cons_append, List.nil_append] at N'); (try dsimp only); (try k_fold))
  k_with "mine prB" => (first | exact prB_1 (by assumption) | exact prB_2 (by assumption) | exact prB_0 (by assumption) (by assumption))
  k_with "call builtin:sorted" => (k_here; (with_reducible show wpAny _ _ (call (Value.builtin "sorted") [Value.ref _]) _ _ _); k_dflt (refine sortL (by k_asm) (by k_asm) (by k_mem) (by assumption) (by assumption) ?_); intro D' h' tk' vs' k' F' N' l1 hi'; (try k_lt l1))
  k_with "k_all" => (first | assumption | exact lt_ne1 (by assumption) | exact lt_ne2 (by assumption) | exact lt_ne3 (by assumption) | exact lt_ne4 (by assumption))
  k_with "k_all" => (first | assumption | exact lt_ne (by assumption) | exact lt_ne1 (by assumption) | exact lt_ne2 (by assumption) | exact lt_ne3 (by assumption) | exact lt_ne4 (by assumption) | exact allLt_ne (by k_asm))
  k_with "mine priv" => (first | assumption | exact PrivAt.mono (by assumption) (by walk_at "mine sub") | exact ⟨_, _, _, _, _, _, _, _, _, _, (by k_mem), (by k_mem)⟩)
  k_with "mine dict" => (first | assumption | exact DictAt.mono (by assumption) (by walk_at "mine sub") | exact ⟨_, _, (by k_mem), (by assumption), (by assumption), (by assumption)⟩)
  k_with "k_all" => exact lt_ne_trans (by assumption) (by omega)
  k_with "mine ne" => (first | assumption | k_ne)
  k_with "mine few" => (first | assumption | exact Nat.le_of_ble_eq_true rfl)
  k_with "mine own" => (first | assumption | (intro x9 hx9; (try (have q9 := Option.some.inj hx9; subst q9; exact ⟨_, rfl⟩)); (repeat' (rcases List.mem_cons.mp hx9 with hx9 | hx9)) <;> first | exact absurd hx9 List.not_mem_nil | (subst hx9; exact ⟨_, rfl⟩)))
  trivial
local macro_rules | `(tactic| walk_at "call ref") => `(tactic| (k_here; (with_reducible show wpAny _ _ (call (Value.ref 79) _) _ _ _); k_dflt (refine' c_add_primaryU ?cx ?U1 ?U2 ?d ?u ?p ?n ?l1 ?l2 ?dK ?fK ?z1 ?dP ?fP ?z2 _ _ ?e1 ?e2 ?_; (case cx => walk_at "mine cx"); (case p => walk_at "mine priv"); (case U1 => k_updF); (case U2 => (intro _; (try dsimp only); k_updF)); (case d => walk_at "mine room"); (case u => walk_at "mine room"); (case n => walk_at "mine ne"); (case l1 => assumption); (case l2 => assumption); (case dK => assumption); (case fK => assumption); (case z1 => walk_at "mine few"); (case dP => assumption); (case fP => assumption); (case z2 => walk_at "mine few"); (case e1 => first | assumption | rfl); (case e2 => first | assumption | rfl)); intro h' tk' oK' kvsK' oP' kvsP' F' N' dK' fK' dP' fP'; (try dsimp only at N')))
theorem rowsP37_2 : True := by
  k_with "call ref" => (k_here; (with_reducible show wpAny _ _ (call (Value.ref 84) [_, _, _, Value.str (Str.ofString "isolated") _]) _ _ _); k_dflt (refine' c_add_isoU ?zqcx ?zqU1 ?zqU2 ?zqd ?zqu ?zqp ?zqn ?zql1 ?zql2 ?zqdK ?zqfK ?zqz1 ?zqdP ?zqfP ?zqz2 _ _ _ _ _ ?zqo ?zqs ?zqe1 ?zqe2 ?zqe3 ?_; (case zqcx => walk_at "mine cx"); (case zqp => walk_at "mine priv"); (case zqU1 => k_updF); (case zqU2 => (intro _; (try dsimp only); k_updF)); (case zqd => walk_at "mine room"); (case zqu => walk_at "mine room"); (case zqn => walk_at "mine ne"); (case zql1 => assumption); (case zql2 => assumption); (case zqdK => assumption); (case zqfK => assumption); (case zqz1 => walk_at "mine few"); (case zqdP => assumption); (case zqfP => assumption); (case zqz2 => walk_at "mine few"); (case zqo => walk_at "mine own"); (case zqs => first | assumption | rfl); (case zqe1 => first | assumption | rfl); (case zqe2 => first | assumption | rfl); (case zqe3 => first | assumption | rfl)); intro h' tk' oK' kvsK' oP' kvsP' F' N' dK' fK' dP' fP'; (try dsimp only at N'))
  k_with "call ref" => (k_here; (with_reducible show wpAny _ _ (call (Value.ref 98) _) _ _ _); k_dflt (refine' c_set_hostU ?zqcx ?zqU ?zqd ?zqu ?zqp ?zqK ?zqM ?zqn1 ?zqn2 ?zql ?zqdH ?zqfH ?zqz _ _ _ _ ?zqe1 ?zqe2 ?zqe3 ?_; (case zqcx => walk_at "mine cx"); (case zqp => walk_at "mine priv"); (case zqU => k_updF); (case zqd => walk_at "mine room"); (case zqu => walk_at "mine room"); (case zqK => walk_at "mine dict"); (case zqM => walk_at "mine dict"); (case zqn1 => walk_at "mine ne"); (case zqn2 => walk_at "mine ne"); (case zql => assumption); (case zqdH => assumption); (case zqfH => assumption); (case zqz => walk_at "mine few"); (case zqe1 => first | assumption | rfl); (case zqe2 => first | assumption | rfl); (case zqe3 => first | assumption | exact Or.inl rfl | exact Or.inr rfl)); intro h' tk' oH' kvsH' F' N' dH' fH'; (try dsimp only at N'))
  k_with "call ref" => (k_here; (with_reducible show wpAny _ _ (call (Value.ref 159) _) _ _ _); k_dflt (refine' c_lets_is ?zqcx ?zqd ?zqu ?zqp ?zqK ?zqP ?zqH ?zqM _ _ _ _ ?zqo ?zqe ?_; (case zqcx => walk_at "mine cx"); (case zqd => walk_at "mine room"); (case zqu => walk_at "mine room"); (case zqp => walk_at "mine priv"); (case zqK => walk_at "mine dict"); (case zqP => walk_at "mine dict"); (case zqH => walk_at "mine dict"); (case zqM => walk_at "mine dict"); (case zqo => assumption); (case zqe => assumption)); intro r' h' tk' F' N' hr'; subst hr'; (try dsimp only))
  k_with "call ref" => (k_here; (with_reducible show wpAny _ _ (call (Value.ref 162) _) _ _ _); k_dflt (refine' c_new ?zqcx ?zqd ?zqu ?_; (case zqcx => walk_at "mine cx"); (case zqd => walk_at "mine room"); (case zqu => walk_at "mine room")); intro P' dx' kd' pd' od' md' o1' o2' o3' o4' t1' t2' t3' t4' i1' i2' i3' i4' n' h' tk' F' N' d1' d2' d3' d4' lo1' lo2' lo3' lo4' l1' l2' l3' l4' l5' l6'; have f1' : FlatPairs PyData.int [] (IS []) := .nil; have f2' : FlatPairs PyData.int [] (II []) := .nil)
  k_with "call ref" => (k_here; (with_reducible show wpAny _ _ (call (Value.ref 84) [_, _, _, Value.str (Str.ofString "community") _]) _ _ _); k_dflt (refine' c_add_comU ?zqcx ?zqU1 ?zqU2 ?zqd ?zqu ?zqp ?zqn ?zql1 ?zql2 ?zqdK ?zqfK ?zqz1 ?zqdP ?zqfP ?zqz2 _ _ _ _ _ ?zqe1 ?zqe2 ?zqe3 ?_; (case zqcx => walk_at "mine cx"); (case zqp => walk_at "mine priv"); (case zqU1 => k_updF); (case zqU2 => (intro _; (try dsimp only); k_updF)); (case zqd => walk_at "mine room"); (case zqu => walk_at "mine room"); (case zqn => walk_at "mine ne"); (case zql1 => assumption); (case zql2 => assumption); (case zqdK => assumption); (case zqfK => assumption); (case zqz1 => walk_at "mine few"); (case zqdP => assumption); (case zqfP => assumption); (case zqz2 => walk_at "mine few"); (case zqe1 => first | assumption | rfl); (case zqe2 => first | assumption | rfl); (case zqe3 => first | assumption | rfl)); intro h' tk' oK' kvsK' oP' kvsP' F' N' dK' fK' dP' fP'; (try dsimp only at N'))
  k_with "call ref" => (k_here; (with_reducible show wpAny _ _ (call (Value.ref 180) _) _ _ _); k_dflt (refine' c_takeU ?zqcx ?zqU ?zqd ?zqu ?zqy1 ?zqy2 _ _ ?zqt1 ?zqt2 ?_; (case zqcx => walk_at "mine cx"); (case zqU => k_updF); (case zqd => walk_at "mine room"); (case zqu => walk_at "mine room"); (case zqy1 => assumption); (case zqy2 => assumption); (case zqt1 => first | assumption | omega); (case zqt2 => first | assumption | omega)); intro d' u' h' tk' x' y' tx' ty' k' hd0' hd1' hy0' hy1' F' N'; (try dsimp only at N'); (try dsimp only))
  trivial
local macro_rules | `(tactic| walk_at "exec For Tuple Name cons nil") => `(tactic| (k_here; (rename Fr _ _ _ _ => lF'); (with_unfolding_all refine' For_turns lF' ?_; k_whole)))
local macro_rules | `(tactic| walk_at "pyIter ref") => `(tactic| (k_here; k_dflt (refine iter_listTurns (by rfl) (by k_asm) (by k_asm) (by k_mem) rfl rfl ?_); intro I' l1; have l1b := l1; (try k_lt l1)))
local macro_rules | `(tactic| walk_at "ItemsRest") => `(tactic| (with_unfolding_all first
  | (refine ItemsRest.val ?_; intro h' tk' F'; refine AllObj.cons (fun o' hc' => ?_); refine AllObj.nil (fun N' => ?_); (try simp only [List.cons_append, List.nil_append] at N'))
  | (refine ItemsRest.zero ?_; intro h' tk' F' N')))
theorem lt_same {I : Nat} {A B : List (Addr × Obj)} (h : ∀ p ∈ A, @LT.lt Nat _ p.1 I) (e : A.map Prod.fst = B.map Prod.fst) : ∀ p ∈ B, @LT.lt Nat _ p.1 I := fun p hp => by
  have q : p.1 ∈ A.map Prod.fst := by rw [e]; exact List.mem_map.mpr ⟨p, hp, rfl⟩
  obtain ⟨r, hr, er⟩ := List.mem_map.mp q
  rw [← er]
  exact h r hr
theorem rowsP37_3 : True := by
  k_with "mine lt" => (first | assumption | (refine' lt_same ?zqha ?zqhb; (case zqha => assumption); (case zqhb => exact rfl)))
  k_with "UnrEndW" => (k_here; refine unrEnd (by k_asm) (by k_asm) (off_one (by walk_at "mine lt")) ⟨subL_of (by k_mem), ?_⟩)
  trivial
theorem off_of {P dx D : Nat} {oP odx : Obj} {rest : List (Addr × Obj)} (h1 : P ≠ D) (h2 : dx ≠ D) (h3 : ∀ q ∈ rest, @Ne Nat q.1 D) : ∀ q ∈ (P, oP) :: (dx, odx) :: rest, @Ne Nat q.1 D :=
  List.forall_mem_cons.mpr ⟨h1, List.forall_mem_cons.mpr ⟨h2, h3⟩⟩
theorem lt_off {dx D : Nat} {rest : List (Addr × Obj)} (h : ∀ q ∈ rest, @LT.lt Nat _ q.1 dx) (l : dx < D) : ∀ q ∈ rest, @Ne Nat q.1 D := fun q hq => Nat.ne_of_lt (Nat.lt_trans (h q hq) l)
def JRow (w : World) (g : Obj → Obj → List (Addr × Obj)) (BK : List (Int × Str)) (BP : List (Int × Int)) (R : List (Int × Str)) (p : Int) (i : Nat) (nx : List (Addr × Obj)) : Prop :=
  ∃ oK kvsK oP kvsP, nx = g oK oP ∧ oK.IsDictOf (intKind PR w) kvsK ∧ FlatPairs PyData.int kvsK (IS (BK ++ R.take i)) ∧ oP.IsDictOf (intKind PR w) kvsP ∧ FlatPairs PyData.int kvsP (II (BP ++ (R.take i).map fun r => (r.1, p)))
theorem rowsP37_4 : True := by
  k_with "mine stored" => (intro z9 hz9; (try dsimp only); (repeat' split) <;> first | rfl | exact absurd hz9 (by subst_vars; decide) | exact absurd hz9 (by rename _ = true => e9; rw [e9]; decide))
  k_with "exec Assign cons ListComp" => (k_here; k_dflt (refine comp_assign (F₀ := by k_asm) (by rfl) (by with_unfolding_all rfl) (by with_unfolding_all rfl) (by decide) (by rfl) (by decide) (by rfl) (by rfl) ?_ (fun _ => rfl)))
  k_with "mine sub" => (first | exact fun _ h => h | (with_reducible assumption) | (refine sub_o ?_; walk_at "mine sub"))
  trivial
def Held (p : Prop) : Prop := p
theorem Held.out {p : Prop} (h : Held p) : p := h
theorem Held.of {p : Prop} (h : p) : Held p := h
theorem rowsP37_5 : True := by
  k_with "exec For Name Call cons nil" => (k_here; (rename Fr _ _ _ _ => lF'); (with_unfolding_all refine' For_invVF lF' ?zqk1 ?zqk2 ?_; (case zqk1 => exact rfl); (case zqk2 => exact rfl); k_whole))
  k_with "call type:range" => (k_here; (rename Fr _ _ _ _ => F'); (rename News _ _ _ _ => N'); (with_unfolding_all refine range2_rows F' N' ?_); intro h' tk' t1' u1' v1' rg' F' N' kp')
  k_with "pyIter ref" => (k_here; (with_reducible show wpAny _ _ (pyIter (Value.ref _)) (fun it s₂ => LoopAtV _ _ _ _ _ _ _ _ _ it s₂) _ _); refine Held.out ?_)
  k_with "mine ints" => (first | assumption | exact IntsAre.cons _ _ (IntsAre.cons _ _ IntsAre.nil))
  k_with "call ref" => (k_here; (with_reducible show wpAny _ _ (call (Value.ref 187) _) _ _ _); k_dflt (refine' c_oneU ?zqcx ?zqU ?zqd ?zqu ?zqy1 ?zqy2 ?zqm ?zqn ?zqi ?zql0 ?zql1 ?_; (case zqcx => walk_at "mine cx"); (case zqm => k_mem); (case zqn => walk_at "mine ne"); (case zqU => k_updF); (case zqd => walk_at "mine room"); (case zqu => walk_at "mine room"); (case zqy1 => assumption); (case zqy2 => assumption); (case zqi => walk_at "mine ints"); (case zql0 => first | assumption | exact Nat.le_of_ble_eq_true rfl); (case zql1 => first | assumption | exact Nat.le_of_ble_eq_true rfl)); intro d' u' h' tk' x' y' tx' ty' k' hm' hy0' hy1' F' N'; (try dsimp only at N'); (try dsimp only))
  trivial
theorem PortsIn.len' {news : List (Addr × Obj)} {kvs : List (Int × Value)} {PT : List (Int × Told)} (h : PortsIn news kvs PT) : kvs.length = PT.length := by
  have := congrArg List.length h.keys
  simpa only [List.length_map] using this
def JPort (w : World) (stored : List Str) (m₀ : Str → Option Value) (sd c od md tb : Addr) (oc : Obj) (R1 R2 : List (Int × Str)) (Y : List (Addr × Obj)) (i : Nat) (m : Str → Option Value) (nx : List (Addr × Obj)) : Prop :=
  (∀ z, stored.contains z = false → m z = m₀ z) ∧ ∃ x y tx ty k oH kvsH oM kvsM oT kvsT PT W, 0 ≤ y ∧ y < 2147483647 ∧ nx = (sd, srcOf x y tx ty k) :: (c, oc) :: (od, oH) :: (md, oM) :: (tb, oT) :: W ∧
    oH.IsDictOf (intKind PR w) kvsH ∧ FlatPairs PyData.int kvsH (II (hostsOf PT)) ∧ oM.IsDictOf (intKind PR w) kvsM ∧ FlatPairs PyData.int kvsM (II (promOf PT)) ∧ oT.IsDictOf (intKind PR w) kvsT ∧ PortsIn W kvsT PT ∧ (∀ q ∈ Y, q ∈ W) ∧
    (∀ q ∈ W, @Ne Nat q.1 sd) ∧ (∀ q ∈ W, @Ne Nat q.1 c) ∧ (∀ q ∈ W, @Ne Nat q.1 od) ∧ (∀ q ∈ W, @Ne Nat q.1 md) ∧ (∀ q ∈ W, @Ne Nat q.1 tb) ∧ PT.length = i ∧ (∀ q ∈ PT, q.1 < 1 + (i : Int)) ∧ (PT.map Prod.fst).Nodup ∧ ∀ k τ, (k, τ) ∈ PT → GoodT R1 R2 τ
theorem rangeKs_at {a k : Int} {n i : Nat} (h : (rangeKs a n)[i]? = some k) : k = a + (i : Int) ∧ i < n := by
  unfold rangeKs at h
  rw [List.getElem?_map] at h
  cases e : (List.range n)[i]? with
  | none => rw [e] at h; cases h
  | some j =>
    rw [e] at h
    obtain ⟨hl, q⟩ := List.getElem?_eq_some_iff.mp e
    rw [List.getElem_range] at q
    subst q
    rw [List.length_range] at hl
    cases h
    exact ⟨rfl, hl⟩
theorem off2 {A B : List (Addr × Obj)} {D : Nat} (a : ∀ q ∈ A, @Ne Nat q.1 D) (b : ∀ q ∈ B, @Ne Nat q.1 D) : ∀ q ∈ A ++ B, @Ne Nat q.1 D := fun q hq => (List.mem_append.mp hq).elim (a q) (b q)
theorem val_snoc_is {o : Obj} {w : World} {kvs : List (Int × Value)} {k : Int} {v : Value} (h : o.IsDictOf (intKind PR w) (stored kvs k v)) (e : valueAt kvs k = none) : o.IsDictOf (intKind PR w) (kvs ++ [(k, v)]) ∧ valueAt (kvs ++ [(k, v)]) k = some v := by
  rw [stored_absent e] at h
  exact ⟨h, val_snoc e⟩
theorem rowsP37_6 : True := by
  k_with "setItem ref int" => (k_here; (with_reducible show wpAny _ _ (setItem (Value.ref _) (Value.int _ _) (Value.ref _)) _ _ _); k_dflt (refine' kda_set (knd := PySem.intKind _ _) ?zqF ?zqN ?zqU ?zqd (intKind_is _ _ _ _) ?zqz ?_; (case zqF => k_asm); (case zqN => k_asm); (case zqU => k_updF); (case zqd => assumption); (case zqz => assumption)); intro h' o' F' N' hd'; (try dsimp only at N'); have hd2' := val_snoc_is hd' (by assumption); clear hd'; obtain ⟨hd', hv'⟩ := hd2')
  k_with "subscriptTail" => (k_here; k_dflt (refine kda_item (knd := PySem.intKind _ _) (by k_asm) (by k_mem) (by assumption) (intKind_is _ _ _ _) (by with_reducible assumption) ?_))
  k_with "call ref" => (k_here; (with_reducible show wpAny _ _ (call (Value.ref 98) _) _ _ _); k_dflt (refine' c_set_hostU ?zqcx ?zqU ?zqd ?zqu ?zqp ?zqK ?zqM ?zqn1 ?zqn2 ?zql ?zqdH ?zqfH ?zqz _ _ _ _ ?zqe1 ?zqe2 ?zqe3 ?_; (case zqcx => walk_at "mine cx"); (case zqp => walk_at "mine priv"); (case zqU => k_updF); (case zqd => walk_at "mine room"); (case zqu => walk_at "mine room"); (case zqK => walk_at "mine dict"); (case zqM => walk_at "mine dict"); (case zqn1 => walk_at "mine ne"); (case zqn2 => walk_at "mine ne"); (case zql => assumption); (case zqdH => assumption); (case zqfH => assumption); (case zqz => walk_at "mine few"); (case zqe1 => assumption); (case zqe2 => assumption); (case zqe3 => exact f_hosts _ (by assumption) _ (by assumption) _ (by assumption))); intro h' tk' oH' kvsH' F' N' dH' fH'; (try dsimp only at N'))
  k_with "call ref" => (k_here; (with_reducible show wpAny _ _ (call (Value.ref 105) _) _ _ _); k_dflt (refine' c_set_promU ?zqcx ?zqU ?zqd ?zqu ?zqp ?zqK ?zqH ?zqn1 ?zqn2 ?zql ?zqdM ?zqfM ?zqz _ _ _ _ ?zqe1 ?zqe2 ?zqe3 ?_; (case zqcx => walk_at "mine cx"); (case zqp => walk_at "mine priv"); (case zqU => k_updF); (case zqd => walk_at "mine room"); (case zqu => walk_at "mine room"); (case zqK => walk_at "mine dict"); (case zqH => walk_at "mine dict"); (case zqn1 => walk_at "mine ne"); (case zqn2 => walk_at "mine ne"); (case zql => assumption); (case zqdM => assumption); (case zqfM => assumption); (case zqz => walk_at "mine few"); (case zqe1 => assumption); (case zqe2 => assumption); (case zqe3 => exact f_proms _ (by assumption) _ (by assumption) _ (by assumption))); intro h' tk' oM' kvsM' F' N' dM' fM'; (try dsimp only at N'))
  trivial
theorem take_in {p : Addr × Obj} {x y : List (Addr × Obj)} (hm : p ∈ y) (h : ∀ q ∈ x, q ∈ y) : ∀ q ∈ p :: x, q ∈ y := fun q hq => by
  rcases List.mem_cons.mp hq with rfl | hq
  · exact hm
  · exact h q hq
theorem rowsP37_7 : True := by
  k_with "mine take" => (refine take_in (by k_mem) (take_in (by k_mem) (take_in (by k_mem) (take_in (by k_mem) (take_in (by k_mem) (take_in (by k_mem) ?_))))); walk_at "mine sub")
  trivial
theorem gen_Q {P : (Flow → Shared → Prop) → Prop} (h : ∀ Qc, P Qc) (Q : Flow → Shared → Prop) : P Q := h Q
theorem host_good {R1 R2 : List (Int × Str)} {v : Int} (h : v ∈ R1.map Prod.fst ++ R2.map Prod.fst) : GoodT R1 R2 (.host v) := h
theorem heard_good {R1 R2 : List (Int × Str)} {v : Int} (h : v ∈ ([100, 200] : List Int)) : GoodT R1 R2 (.heard v) := h
theorem other_good {R1 R2 : List (Int × Str)} : GoodT R1 R2 .other := trivial
theorem perm3 {h₀ h : Heap} {L : Addr} {a b c : Addr × Obj} {l : List (Addr × Obj)} (N : News h₀ L h (a :: b :: c :: l)) : News h₀ L h (b :: c :: a :: l) := fun q hq => N q (by
  simp only [List.mem_cons] at hq ⊢
  rcases hq with h | h | h | h <;> simp only [h, true_or, or_true])
theorem off_3 {A : List (Addr × Obj)} {D a b c : Nat} {oa ob oc : Obj} (h1 : a ≠ D) (h2 : b ≠ D) (h3 : c ≠ D) (h : ∀ q ∈ A, @Ne Nat q.1 D) : ∀ q ∈ (a, oa) :: (b, ob) :: (c, oc) :: A, @Ne Nat q.1 D :=
  List.forall_mem_cons.mpr ⟨h1, List.forall_mem_cons.mpr ⟨h2, List.forall_mem_cons.mpr ⟨h3, h⟩⟩⟩
theorem off_4 {A : List (Addr × Obj)} {D a b c d : Nat} {oa ob oc od : Obj} (h1 : a ≠ D) (h2 : b ≠ D) (h3 : c ≠ D) (h4 : d ≠ D) (h : ∀ q ∈ A, @Ne Nat q.1 D) : ∀ q ∈ (a, oa) :: (b, ob) :: (c, oc) :: (d, od) :: A, @Ne Nat q.1 D :=
  List.forall_mem_cons.mpr ⟨h1, off_3 h2 h3 h4 h⟩
theorem port_end {w : World} {g h' : Heap} {L' : Addr} {all own V W Y : List (Addr × Obj)} {stored : List Str} {m₀ m' : Str → Option Value} {sd c od md tb a : Addr} {o oc oH oM oT : Obj} {R1 R2 : List (Int × Str)} {x y : Int} {tx ty : Tok} {kk : Nat} {i : Nat} {k : Int} {τ : Told} {PT : List (Int × Told)} {kvsH kvsM kvsT : List (Int × Value)} {s₁ : Shared} {tk : Nat} {oo : Obj × Obj × Obj × Obj}
    (F : Fr g L' h' m') (N : News g L' h' all) (sub : ∀ q ∈ (a, o) :: (sd, srcOf x y tx ty kk) :: (c, oc) :: (od, oH) :: (md, oM) :: (tb, oT) :: V, q ∈ all) (ht : ToldAt [(a, o)] a τ) (la : ∀ q ∈ V, @Ne Nat q.1 a)
    (n1 : @Ne Nat a sd) (n2 : @Ne Nat a c) (n3 : @Ne Nat a od) (n4 : @Ne Nat a md) (n5 : @Ne Nat a tb) (y0 : 0 ≤ y) (y1 : y < 2147483647)
    (dH : oH.IsDictOf (intKind PR w) kvsH) (fH : FlatPairs PyData.int kvsH (II (hostsOf (PT ++ [(k, τ)])))) (dM : oM.IsDictOf (intKind PR w) kvsM) (fM : FlatPairs PyData.int kvsM (II (promOf (PT ++ [(k, τ)])))) (dT : oT.IsDictOf (intKind PR w) (kvsT ++ [(k, .ref a)]))
    (pT : PortsIn W kvsT PT) (sW : ∀ q ∈ Y, q ∈ W) (sWV : ∀ q ∈ W, q ∈ V) (sOV : ∀ q ∈ own, q ∈ V) (ws : ∀ q ∈ W, @Ne Nat q.1 sd) (wc : ∀ q ∈ W, @Ne Nat q.1 c) (wo : ∀ q ∈ W, @Ne Nat q.1 od) (wm : ∀ q ∈ W, @Ne Nat q.1 md) (wt : ∀ q ∈ W, @Ne Nat q.1 tb)
    (hlen : PT.length = i) (hlt : ∀ q ∈ PT, q.1 < 1 + (i : Int)) (nd : (PT.map Prod.fst).Nodup) (good : ∀ k τ, (k, τ) ∈ PT → GoodT R1 R2 τ) (ek : k = 1 + (i : Int)) (gt : GoodT R1 R2 τ)
    (hoff : TbOff own ((sd, oo.1) :: (c, oc) :: (od, oo.2.1) :: (md, oo.2.2.1) :: (tb, oo.2.2.2) :: W)) (hm : ∀ z, stored.contains z = false → m' z = m₀ z) :
    TbEnd g L' (JPort w stored m₀ sd c od md tb oc R1 R2 Y (i + 1)) own s₁ { s₁ with heap := h', toks := tk } := by
  refine ⟨h', tk, m', all, (sd, srcOf x y tx ty kk) :: (c, oc) :: (od, oH) :: (md, oM) :: (tb, oT) :: (a, o) :: W, rfl, F, N, ?_, fun q hq => sub q (.tail _ (.tail _ (.tail _ (.tail _ (.tail _ (.tail _ (sOV q hq))))))), ?_, hm, x, y, tx, ty, kk, oH, kvsH, oM, kvsM, oT, _, PT ++ [(k, τ)], (a, o) :: W, y0, y1, rfl, dH, fH, dM, fM, dT, ?_, fun q hq => .tail _ (sW q hq), List.forall_mem_cons.mpr ⟨n1, ws⟩, List.forall_mem_cons.mpr ⟨n2, wc⟩, List.forall_mem_cons.mpr ⟨n3, wo⟩, List.forall_mem_cons.mpr ⟨n4, wm⟩, List.forall_mem_cons.mpr ⟨n5, wt⟩, ?_, ?_, ?_, ?_⟩
  · intro q hq
    simp only [List.mem_cons] at hq
    rcases hq with rfl | rfl | rfl | rfl | rfl | rfl | hq
    · exact sub _ (.tail _ (.head _))
    · exact sub _ (.tail _ (.tail _ (.head _)))
    · exact sub _ (.tail _ (.tail _ (.tail _ (.head _))))
    · exact sub _ (.tail _ (.tail _ (.tail _ (.tail _ (.head _)))))
    · exact sub _ (.tail _ (.tail _ (.tail _ (.tail _ (.tail _ (.head _))))))
    · exact sub _ (.head _)
    · exact sub _ (.tail _ (.tail _ (.tail _ (.tail _ (.tail _ (.tail _ (sWV _ hq)))))))
  · intro p hp q hq
    have z := hoff p hp
    simp only [List.mem_cons] at hq
    rcases hq with rfl | rfl | rfl | rfl | rfl | rfl | hq
    · exact z (sd, oo.1) (.head _)
    · exact z (c, oc) (.tail _ (.head _))
    · exact z (od, oo.2.1) (.tail _ (.tail _ (.head _)))
    · exact z (md, oo.2.2.1) (.tail _ (.tail _ (.tail _ (.head _))))
    · exact z (tb, oo.2.2.2) (.tail _ (.tail _ (.tail _ (.tail _ (.head _)))))
    · exact la p (sOV p hp)
    · exact z _ (.tail _ (.tail _ (.tail _ (.tail _ (.tail _ hq)))))
  · exact (pT.mono fun q hq => .tail _ hq).snoc (ht.mono fun q hq => by rw [List.mem_singleton.mp hq]; exact .head _)
  · rw [List.length_append, hlen]; rfl
  · intro q hq
    rcases List.mem_append.mp hq with hq | hq
    · have := hlt q hq; omega
    · rw [List.mem_singleton.mp hq]; show k < _; omega
  · rw [List.map_append]
    refine List.nodup_append.mpr ⟨nd, List.nodup_cons.mpr ⟨List.not_mem_nil, List.nodup_nil⟩, fun p hp q hq e => ?_⟩
    obtain ⟨r, hr, er⟩ := List.mem_map.mp hp
    have := hlt r hr
    have eq : q = k := List.mem_singleton.mp hq
    omega
  · intro k' τ' h
    rcases List.mem_append.mp h with h | h
    · exact good _ _ h
    · cases List.mem_singleton.mp h; exact gt
theorem ne_lt {a b : Nat} (h : b < a) : a ≠ b := Nat.ne_of_gt h
section
variable {w : World} {mean : ExcName → Option Value} {mg mb : Str → Option Value} {dp un : Nat} {gd : Option (List Code)} {cn : Str} {cs : Scope} {a : Addr} {ccd : Value} {cl : List (Str × Addr)} {outer : List Env} {A₀ : Around} {base h₀ : Heap} {L : Addr} {m : Str → Option Value} {s : Shared} {news : List (Addr × Obj)} {Q E : Value → Shared → Prop}
  {P kd pd od md : Addr} {DK : List (Int × Str)} {DP DH DM : List (Int × Int)}
theorem c_built {sd c f : Addr} {oc : Obj} {rest : List (Addr × Obj)} {x y : Int} {tx ty : Tok} {k : Nat} {R1 R2 : List (Int × Str)} (cx : Cx w mean mg mb outer A₀ base h₀ L m cs s.heap ((sd, srcOf x y tx ty k) :: (c, oc) :: rest)) (hd : dp + 8 ≤ 500) (hu : un + 80 ≤ 5000)
    (nc : @Ne Nat c sd) (ne : ∀ q ∈ rest, q.1 ≠ sd) (ne2 : ∀ q ∈ rest, @Ne Nat q.1 c) (hy : 0 ≤ y) (hy2 : y < 2147483647) (fm : FamAt rest f R1 R2) (h1 : R1 ∈ R1s) (h2 : R2 ∈ R2s)
    (ret : ∀ t P tb kd pd od md h' tk' x' y' tx' ty' k' rest' PT, 0 ≤ y' → y' < 2147483647 → Fr h₀ L h' m → News h₀ L h' ((sd, srcOf x' y' tx' ty' k') :: (c, oc) :: rest') → (t, tupO [.ref P, .ref tb]) ∈ rest' → (∀ q ∈ rest, q ∈ rest') → PrivAt rest' P kd pd od md →
      DictAt w rest' kd (IS (kindsOf R1 R2)) → DictAt w rest' pd (II (primsOf R1 R2)) → DictAt w rest' od (II (hostsOf PT)) → DictAt w rest' md (II (promOf PT)) → PortsAt w rest' tb PT → (PT.map Prod.fst).Nodup → PT.length ≤ 60 → (∀ k τ, (k, τ) ∈ PT → GoodT R1 R2 τ) → (∀ q ∈ rest', @Ne Nat q.1 sd) → (∀ q ∈ rest', @Ne Nat q.1 c) → Q (.ref t) { s with heap := h', toks := tk' }) :
    wpAny (model PR w) (ktrTop dp un gd cn cs L a ccd cl outer) (call (.ref 206) [.ref sd, .ref f]) Q E s := by
  obtain ⟨B, F, X, N, T, hk⟩ := cx
  have ne' : ∀ q ∈ (c, oc) :: rest, q.1 ≠ sd := List.forall_mem_cons.mpr ⟨nc, ne⟩
  refine wpAny_call ?_
  k_dflt ktr_enter
  iterate 8 (k_dflt walk1)
  k_dflt (refine' c_new ?cx ?d ?u ?_; (case cx => walk_at "mine cx"); (case d => walk_at "mine room"); (case u => walk_at "mine room"))
  intro P dx kd pd od md o1 o2 o3 o4 t1 t2 t3 t4 i1 i2 i3 i4 n h9 tk9 F9 N9 d1 d2 d3 d4 lo1 lo2 lo3 lo4 l1 l2 l3 l4 l5 l6
  have f1 : FlatPairs PyData.int [] (IS []) := .nil
  have f2 : FlatPairs PyData.int [] (II []) := .nil
  have f3 : FlatPairs PyData.int [] (II []) := .nil
  have f4 : FlatPairs PyData.int [] (II []) := .nil
  have lr : ∀ q ∈ rest, @LT.lt Nat _ q.1 dx := fun p hp => l1 p (.tail _ (.tail _ hp))
  have b1sd : @LT.lt Nat _ sd dx := l1 (sd, _) (.head _)
  have b2c : @LT.lt Nat _ c dx := l1 (c, _) (.tail _ (.head _))
  iterate 13 (k_dflt walk1)
  rename_i tb hA oT l7 loT hs' fs' dT fi' D hB l8 hC hD hE F0 N0
  obtain ⟨Z, N1, pv, fm', subZ, zk, zp, zs, zc, zo, zm, zt, zl⟩ : ∃ Z, News _ _ hE ((kd, o1) :: (pd, o2) :: (sd, srcOf x y tx ty k) :: (c, oc) :: (od, o3) :: (md, o4) :: (tb, oT) :: Z) ∧ PrivAt Z P kd pd od md ∧ FamAt Z f R1 R2 ∧ (∀ q ∈ rest, q ∈ Z) ∧ (∀ q ∈ Z, @Ne Nat q.1 kd) ∧ (∀ q ∈ Z, @Ne Nat q.1 pd) ∧ (∀ q ∈ Z, @Ne Nat q.1 sd) ∧ (∀ q ∈ Z, @Ne Nat q.1 c) ∧ (∀ q ∈ Z, @Ne Nat q.1 od) ∧ (∀ q ∈ Z, @Ne Nat q.1 md) ∧ (∀ q ∈ Z, @Ne Nat q.1 tb) ∧ True := by
    refine ⟨(P, instObj 162 dx) :: (dx, _) :: rest, fun q hq => N0 q ?_, ⟨dx, i1, i2, i3, i4, t1, t2, t3, t4, n, .head _, .tail _ (.head _)⟩, fm.mono fun _ h => .tail _ (.tail _ h), fun _ h => .tail _ (.tail _ h), off_of (by first | k_ne | omega) (by first | k_ne | omega) (lt_off lr (by first | omega | exact ltm_lt (by with_reducible assumption) (by k_mem))), off_of (by first | k_ne | omega) (by first | k_ne | omega) (lt_off lr (by first | omega | exact ltm_lt (by with_reducible assumption) (by k_mem))), off_of (by first | k_ne | omega) (by first | k_ne | omega) ne, off_of (by first | k_ne | omega) (by first | k_ne | omega) ne2, off_of (by first | k_ne | omega) (by first | k_ne | omega) (lt_off lr (by first | omega | exact ltm_lt (by with_reducible assumption) (by k_mem))), off_of (by first | k_ne | omega) (by first | k_ne | omega) (lt_off lr (by first | omega | exact ltm_lt (by with_reducible assumption) (by k_mem))), off_of (by first | k_ne | omega) (by first | k_ne | omega) (lt_off lr (by first | omega | exact ltm_lt (by with_reducible assumption) (by k_mem))), trivial⟩
    simp only [List.mem_cons] at hq ⊢
    rcases hq with h | h | h | h | h | h | h | h | h | h <;> simp only [h, true_or, or_true]
  have pqkd_pd : @Ne Nat kd pd := by first | k_ne | omega
  have pqkd_sd : @Ne Nat kd sd := by first | k_ne | omega
  have pqkd_c : @Ne Nat kd c := by first | k_ne | omega
  have pqkd_od : @Ne Nat kd od := by first | k_ne | omega
  have pqkd_md : @Ne Nat kd md := by first | k_ne | omega
  have pqkd_tb : @Ne Nat kd tb := by first | k_ne | omega
  have pqpd_sd : @Ne Nat pd sd := by first | k_ne | omega
  have pqpd_c : @Ne Nat pd c := by first | k_ne | omega
  have pqpd_od : @Ne Nat pd od := by first | k_ne | omega
  have pqpd_md : @Ne Nat pd md := by first | k_ne | omega
  have pqpd_tb : @Ne Nat pd tb := by first | k_ne | omega
  have pqsd_od : @Ne Nat sd od := by first | k_ne | omega
  have pqsd_md : @Ne Nat sd md := by first | k_ne | omega
  have pqsd_tb : @Ne Nat sd tb := by first | k_ne | omega
  have pqc_od : @Ne Nat c od := by first | k_ne | omega
  have pqc_md : @Ne Nat c md := by first | k_ne | omega
  have pqc_tb : @Ne Nat c tb := by first | k_ne | omega
  have pqod_md : @Ne Nat od md := by first | k_ne | omega
  have pqod_tb : @Ne Nat od tb := by first | k_ne | omega
  have pqmd_tb : @Ne Nat md tb := by first | k_ne | omega
  clear N0
  have pv0 := pv
  obtain ⟨Z1, hZ1, N1', pv1, fm1, zk1, zp1⟩ : ∃ Z1, Held (Z1 = (sd, srcOf x y tx ty k) :: (c, oc) :: (od, o3) :: (md, o4) :: (tb, oT) :: Z) ∧ News _ _ hE ((kd, o1) :: (pd, o2) :: Z1) ∧ PrivAt Z1 P kd pd od md ∧ FamAt Z1 f R1 R2 ∧ (∀ q ∈ Z1, @Ne Nat q.1 kd) ∧ (∀ q ∈ Z1, @Ne Nat q.1 pd) :=
    ⟨_, Held.of rfl, N1, pv.mono fun q hq => .tail _ (.tail _ (.tail _ (.tail _ (.tail _ hq)))), fm'.mono fun q hq => .tail _ (.tail _ (.tail _ (.tail _ (.tail _ hq)))), List.forall_mem_cons.mpr ⟨Ne.symm pqkd_sd, List.forall_mem_cons.mpr ⟨Ne.symm pqkd_c, List.forall_mem_cons.mpr ⟨Ne.symm pqkd_od, List.forall_mem_cons.mpr ⟨Ne.symm pqkd_md, List.forall_mem_cons.mpr ⟨Ne.symm pqkd_tb, zk⟩⟩⟩⟩⟩, List.forall_mem_cons.mpr ⟨Ne.symm pqpd_sd, List.forall_mem_cons.mpr ⟨Ne.symm pqpd_c, List.forall_mem_cons.mpr ⟨Ne.symm pqpd_od, List.forall_mem_cons.mpr ⟨Ne.symm pqpd_md, List.forall_mem_cons.mpr ⟨Ne.symm pqpd_tb, zp⟩⟩⟩⟩⟩⟩
  clear N1 pv fm'
  obtain ⟨dx', i1, i2, i3, i4, t1, t2, t3, t4, n', mP, mD⟩ := pv1
  obtain ⟨nf, a1, a2, r1, r2, tf1, tf2, mf, ma1, ma2, q1, q2⟩ := fm1
  obtain ⟨us1, k1, m1, w1⟩ := q1
  obtain ⟨us2, k2, m2, w2⟩ := q2
  k_steps
  rename_i I0 lb0 lI0 hq1 tq1 oI0 hcI0 hq2 Fq1 Nq1 hq3 hq4 Fq2 Nq2 hq5 tq2 oK0 kvK0 oP0 kvP0 F1 N1b dK0 fK0 dP0 fP0 I1 lb1 lI1
  have rl1 := (rows_of w1).1
  have rl2 := (rows_of w2).1
  refine items_inv ["vlan", "kind"] _ (JRow w (fun a b => (I0, oI0) :: (kd, a) :: (pd, b) :: Z1) bK1 bP1 R1 100) ?hk (us1.map Itm.val) ?step ?done us1.length 0 _ _ (by rw [List.length_map]; omega) ?start (fun _ _ => rfl)
  case hk =>
    rintro i nx ⟨oK, kvsK, oP, kvsP, rfl, -⟩
    exact subL_of (by k_mem)
  case start => exact ⟨oK0, kvK0, oP0, kvP0, rfl, dK0, fK0, dP0, fP0⟩
  case step =>
    intro i xx nx v u h tk o hx hJ ho hv F' N'
    refine gen_Q (P := fun Qc => wpAny _ _ _ (fun _ s₂ => wpAny _ _ _ (UnrPostW _ _ _ _ _ Qc) _ s₂) _ _) (fun Qc => ?_) _
    obtain ⟨oK, kvsK, oP, kvsP, rfl, dK, fK, dP, fP⟩ := hJ
    dsimp only at N'
    obtain ⟨u9, n9, k9, s1, s2, rfl, hR, hu9⟩ := row_item w1 hx hv
    obtain ⟨hi, hg⟩ := row_at hR
    have ok := f_row1 R1 h1 i hi
    rw [hg] at ok
    obtain ⟨e1, e2, e3, e4, z1, z2, ow⟩ := ok
    dsimp only at e1 e2 e3 e4
    generalize hDK : bK1 ++ R1.take i = DK9 at fK e1 e3 e4 z1 ow
    generalize hDP : (bP1 ++ (R1.take i).map fun r => (r.1, (100 : Int))) = DP9 at fP e2 e4 z2 ow
    have own := own_of ow
    clear dK0 fK0 dP0 fP0
    rcases e4 with ek | ⟨ek, es⟩
    all_goals subst ek
    · k_steps
      refine' unrEnd ?a1 ?a2 ?a3 ⟨⟨_, _, _, _, rfl, ?b1, ?b2, ?b3, ?b4⟩, ?a4⟩
      case a1 => k_asm
      case a2 => k_asm
      case a3 => exact off_one (by walk_at "mine lt")
      case b1 => assumption
      case b2 => exact Eq.mp (congrArg (fun z => FlatPairs PyData.int _ (IS z)) ((congrArg (· ++ _) hDK).symm.trans (take_K (B := bK1) hR))) (by assumption)
      case b3 => assumption
      case b4 => exact Eq.mp (congrArg (fun z => FlatPairs PyData.int _ (II z)) ((congrArg (· ++ _) hDP).symm.trans (take_P (B := bP1) hR))) (by assumption)
      case a4 =>
        intro z9 hz9
        have n1 : ¬ z9 = Str.ofString "vlan" := by rintro rfl; exact absurd hz9 (by decide)
        have n2 : ¬ z9 = Str.ofString "kind" := by rintro rfl; exact absurd hz9 (by decide)
        simp only [if_neg n1, if_neg n2, hz9, Bool.false_eq_true, if_false]
    · k_steps
      refine' unrEnd ?a1 ?a2 ?a3 ⟨⟨_, _, _, _, rfl, ?b1, ?b2, ?b3, ?b4⟩, ?a4⟩
      case a1 => k_asm
      case a2 => k_asm
      case a3 => exact off_one (by walk_at "mine lt")
      case b1 => assumption
      case b2 => exact Eq.mp (congrArg (fun z => FlatPairs PyData.int _ (IS z)) ((congrArg (· ++ _) hDK).symm.trans (take_K (B := bK1) hR))) (by assumption)
      case b3 => assumption
      case b4 => exact Eq.mp (congrArg (fun z => FlatPairs PyData.int _ (II z)) ((congrArg (· ++ _) hDP).symm.trans (take_P (B := bP1) hR))) (by assumption)
      case a4 =>
        intro z9 hz9
        have n1 : ¬ z9 = Str.ofString "vlan" := by rintro rfl; exact absurd hz9 (by decide)
        have n2 : ¬ z9 = Str.ofString "kind" := by rintro rfl; exact absurd hz9 (by decide)
        simp only [if_neg n1, if_neg n2, hz9, Bool.false_eq_true, if_false]
  case done =>
    intro nx u h tk hJ F' N'
    obtain ⟨oK, kvsK, oP, kvsP, rfl, dK, fK, dP, fP⟩ := hJ
    dsimp only at N'
    rw [List.length_map, rl1, List.take_length] at fK fP
    clear dK0 fK0 dP0 fP0
    obtain ⟨g1, g2, g3, g4⟩ := f_mid R1 h1
    k_steps
    rename_i hr1 tr1 oI2 hcI2 hr2 Fr1 Nr1 hr3 hr4 Fr2 Nr2 hr5 tr2 oK3 kvK3 oP3 kvP3 F3 N3 dK3 fK3 dP3 fP3 I3 lb3 lI3
    clear Nr1 Nr2
    refine items_inv ["vlan", "kind"] _ (JRow w (fun a b => (I0, oI2) :: (kd, a) :: (pd, b) :: Z1) (bK2 R1) (bP2 R1) R2 200) ?hk (us2.map Itm.val) ?step ?done us2.length 0 _ _ (by rw [List.length_map]; omega) ?start (fun _ _ => rfl)
    case hk =>
      rintro i nx ⟨oK, kvsK, oP, kvsP, rfl, -⟩
      exact subL_of (by k_mem)
    case start => exact ⟨oK3, kvK3, oP3, kvP3, rfl, dK3, by rw [List.take_zero, List.append_nil]; exact fK3, dP3, by rw [List.take_zero, List.map_nil, List.append_nil]; exact fP3⟩
    case step =>
      intro i xx nx v u h tk o hx hJ ho hv F' N'
      obtain ⟨oK, kvsK, oP, kvsP, rfl, dK, fK, dP, fP⟩ := hJ
      dsimp only at N'
      obtain ⟨u9, n9, k9, s1, s2, rfl, hR, hu9⟩ := row_item w2 hx hv
      obtain ⟨hi, hg⟩ := row_at hR
      have ok := f_row2 R1 h1 R2 h2 i hi
      rw [hg] at ok
      obtain ⟨e1, e2, e3, e4, z1, z2, ow⟩ := ok
      dsimp only at e1 e2 e3 e4
      generalize hDK : (bK2 R1) ++ R2.take i = DK9 at fK e1 e3 e4 z1 ow
      generalize hDP : ((bP2 R1) ++ (R2.take i).map fun r => (r.1, (200 : Int))) = DP9 at fP e2 e4 z2 ow
      have own := own_of ow
      clear dK3 fK3 dP3 fP3
      rcases e4 with ek | ⟨ek, es⟩
      all_goals subst ek
      · k_steps
        refine' unrEnd ?a1 ?a2 ?a3 ⟨⟨_, _, _, _, rfl, ?b1, ?b2, ?b3, ?b4⟩, ?a4⟩
        case a1 => k_asm
        case a2 => k_asm
        case a3 => exact off_one (by walk_at "mine lt")
        case b1 => assumption
        case b2 => exact Eq.mp (congrArg (fun z => FlatPairs PyData.int _ (IS z)) ((congrArg (· ++ _) hDK).symm.trans (take_K (B := (bK2 R1)) hR))) (by assumption)
        case b3 => assumption
        case b4 => exact Eq.mp (congrArg (fun z => FlatPairs PyData.int _ (II z)) ((congrArg (· ++ _) hDP).symm.trans (take_P (B := (bP2 R1)) hR))) (by assumption)
        case a4 =>
          intro z9 hz9
          have n1 : ¬ z9 = Str.ofString "vlan" := by rintro rfl; exact absurd hz9 (by decide)
          have n2 : ¬ z9 = Str.ofString "kind" := by rintro rfl; exact absurd hz9 (by decide)
          simp only [if_neg n1, if_neg n2, hz9, Bool.false_eq_true, if_false]
      · k_steps
        refine' unrEnd ?a1 ?a2 ?a3 ⟨⟨_, _, _, _, rfl, ?b1, ?b2, ?b3, ?b4⟩, ?a4⟩
        case a1 => k_asm
        case a2 => k_asm
        case a3 => exact off_one (by walk_at "mine lt")
        case b1 => assumption
        case b2 => exact Eq.mp (congrArg (fun z => FlatPairs PyData.int _ (IS z)) ((congrArg (· ++ _) hDK).symm.trans (take_K (B := (bK2 R1)) hR))) (by assumption)
        case b3 => assumption
        case b4 => exact Eq.mp (congrArg (fun z => FlatPairs PyData.int _ (II z)) ((congrArg (· ++ _) hDP).symm.trans (take_P (B := (bP2 R1)) hR))) (by assumption)
        case a4 =>
          intro z9 hz9
          have n1 : ¬ z9 = Str.ofString "vlan" := by rintro rfl; exact absurd hz9 (by decide)
          have n2 : ¬ z9 = Str.ofString "kind" := by rintro rfl; exact absurd hz9 (by decide)
          simp only [if_neg n1, if_neg n2, hz9, Bool.false_eq_true, if_false]
    case done =>
      intro nx u h tk hJ F' N'
      obtain ⟨oK, kvsK, oP, kvsP, rfl, dK, fK, dP, fP⟩ := hJ
      dsimp only at N'
      rw [List.length_map, rl2, List.take_length] at fK fP
      have fK9 : FlatPairs PyData.int kvsK (IS (kindsOf R1 R2)) := fK
      have fP9 : FlatPairs PyData.int kvsP (II (primsOf R1 R2)) := fP
      clear dK3 fK3 dP3 fP3 fK fP
      k_steps
      k_dflt (refine' fam_rows (B1 := true) (B2 := true) ?hh (by rfl) (by rfl) (by rfl) (by rfl) (by rfl) (by decide) (by decide) (by decide) (by decide) ?F ?N ?m1 ?m2 ?m3 ?q1 ?q2 ?z1 ?z2 TestsOk.nil TestsOk.nil ?K)
      case hh => rfl
      case F => k_asm
      case N => k_asm
      case m1 => k_mem
      case m2 => k_mem
      case m3 => k_mem
      case q1 => exact RowsAt.mono ⟨us1, k1, m1, w1⟩ (by walk_at "mine sub")
      case q2 => exact RowsAt.mono ⟨us2, k2, m2, w2⟩ (by walk_at "mine sub")
      case z1 => exact (f_len R1 h1 R2 h2).2.1
      case z2 => exact (f_len R1 h1 R2 h2).2.2.1
      case K =>
        intro D' ys' hi' off' h' tk' F' N'
        simp only [if_true] at hi'
        have hz : Z1 = _ := hZ1.out
        subst hz
        obtain ⟨Y, NY, pvY, kY, pY, sY, subY, ys, yc, yo, ym, yt⟩ : ∃ Y, News _ _ h' ((sd, srcOf x y tx ty k) :: (c, oc) :: (od, o3) :: (md, o4) :: (tb, oT) :: Y) ∧ PrivAt Y P kd pd od md ∧ DictAt w Y kd (IS (kindsOf R1 R2)) ∧ DictAt w Y pd (II (primsOf R1 R2)) ∧ (D', listOf ys'.toArray ys'.length) ∈ Y ∧ (∀ q ∈ rest, q ∈ Y) ∧ (∀ q ∈ Y, @Ne Nat q.1 sd) ∧ (∀ q ∈ Y, @Ne Nat q.1 c) ∧ (∀ q ∈ Y, @Ne Nat q.1 od) ∧ (∀ q ∈ Y, @Ne Nat q.1 md) ∧ (∀ q ∈ Y, @Ne Nat q.1 tb) := by
          refine ⟨(D', LCg.lst ys') :: (kd, oK) :: (pd, oP) :: Z, fun q hq => N' q ?_, pv0.mono fun q hq => .tail _ (.tail _ (.tail _ hq)), ⟨oK, kvsK, .tail _ (.head _), lo1, dK, fK9⟩, ⟨oP, kvsP, .tail _ (.tail _ (.head _)), lo2, dP, fP9⟩, .head _, fun q hq => .tail _ (.tail _ (.tail _ (subZ q hq))), off_3 (Ne.symm (off' (sd, _) (by k_mem))) (by k_ne) (by k_ne) zs, off_3 (Ne.symm (off' (c, _) (by k_mem))) (by k_ne) (by k_ne) zc, off_3 (Ne.symm (off' (od, _) (by k_mem))) (by k_ne) (by k_ne) zo, off_3 (Ne.symm (off' (md, _) (by k_mem))) (by k_ne) (by k_ne) zm, off_3 (Ne.symm (off' (tb, _) (by k_mem))) (by k_ne) (by k_ne) zt⟩
          simp only [List.mem_cons] at hq ⊢
          rcases hq with h | h | h | h | h | h | h | h | h <;> simp only [h, true_or, or_true]
        k_steps
        refine Held.of ?_
        rename IsRange _ _ _ _ _ _ _ _ => rg
        rename Fr _ _ _ _ => FP
        rename News _ _ _ _ => NP
        refine tbr_invG (JPort w ["port", "way"] _ sd c od md tb oc R1 R2 Y) (by rfl) rg (small_one (by omega) (by omega) (by omega) (by omega)) (rangeSize_nat _ _) FP NP ⟨fun _ _ => rfl, _, _, _, _, _, o3, [], o4, [], oT, [], [], Y, by assumption, by assumption, rfl, d3, f3, d4, f4, dT, .nil, fun _ h => h, ys, yc, yo, ym, yt, rfl, by simp, List.nodup_nil, by simp⟩ ?turn ?done
        case turn =>
          intro i k9 t9 m₁ nx h tk own hk hoff hJ F' N'
          obtain ⟨hm, x, y, tx, ty, kk, oH, kvsH, oM, kvsM, oT, kvsT, PT, W, y0, y1, rfl, dH, fH, dM, fM, dT, pT, sW, ws, wc, wo, wm, wt, hlen, hlt, nd, good⟩ := hJ
          obtain ⟨ek, hin⟩ := rangeKs_at hk
          obtain ⟨V, NV, sWV, sOV, v1, v2, v3, v4, v5⟩ : ∃ V, News _ _ h ((sd, srcOf x y tx ty kk) :: (c, oc) :: (od, oH) :: (md, oM) :: (tb, oT) :: V) ∧ (∀ q ∈ W, q ∈ V) ∧ (∀ q ∈ own, q ∈ V) ∧ (∀ q ∈ V, @Ne Nat q.1 sd) ∧ (∀ q ∈ V, @Ne Nat q.1 c) ∧ (∀ q ∈ V, @Ne Nat q.1 od) ∧ (∀ q ∈ V, @Ne Nat q.1 md) ∧ (∀ q ∈ V, @Ne Nat q.1 tb) :=
            ⟨W ++ own, fun q hq => N' q (by simpa only [List.mem_append, List.mem_cons, List.cons_append] using hq), fun q hq => List.mem_append_left _ hq, fun q hq => List.mem_append_right _ hq, off2 ws fun q hq => hoff q hq _ (.head _), off2 wc fun q hq => hoff q hq _ (.tail _ (.head _)), off2 wo fun q hq => hoff q hq _ (.tail _ (.tail _ (.head _))), off2 wm fun q hq => hoff q hq _ (.tail _ (.tail _ (.tail _ (.head _)))), off2 wt fun q hq => hoff q hq _ (.tail _ (.tail _ (.tail _ (.tail _ (.head _)))))⟩
          clear N'
          refine gen_Q (P := fun Qc => wpAny _ _ _ (TbPost _ _ _ _ _ Qc) _ _) (fun Qc => ?_) _
          have hm2 := overlay_of hm
          rw [hm2] at F'
          clear hm2
          have sYV : ∀ q ∈ Y, q ∈ V := fun q hq => sWV q (sW q hq)
          have pvV := pvY.mono sYV
          have kV := kY.mono sYV
          have sV := sYV _ sY
          have nD : @Ne Nat D' sd := ys _ sY
          obtain ⟨eh, em⟩ := hosts_none (k := k9) (r := PT) fun q hq => by have := hlt q hq; omega
          have hv0 : valueAt kvsT k9 = none := no_val fun q hq => by
            rw [pT.keys] at hq
            obtain ⟨r, hr, rfl⟩ := List.mem_map.mp hq
            have := hlt r hr
            omega
          have zH : (hostsOf PT).length ≤ 100 := Nat.le_trans (List.length_filterMap_le _ _) (by omega)
          have zM : (promOf PT).length ≤ 100 := Nat.le_trans (List.length_filterMap_le _ _) (by omega)
          have zT : kvsT.length ≤ sizeLine := by rw [sizeLine_eq, pT.len']; omega
          have ls0 := (f_len R1 h1 R2 h2).2.2.2.1
          have ls1 := (f_len R1 h1 R2 h2).2.2.2.2
          obtain ⟨dx9, j1, j2, j3, j4, u1, u2, u3, u4, n9, mP9, mD9⟩ := id pvV
          k_steps
          · rename _ ∈ List.map Prod.fst R1 ++ List.map Prod.fst R2 => hm9
            refine' port_end (PT := PT) (k := k9) (oo := (srcOf x y tx ty kk, oH, oM, oT)) ?eF ?eN ?es ?et ?el ?e1 ?e2 ?e3 ?e4 ?e5 ?ey0 ?ey1 ?edH ?efH ?edM ?efM ?edT pT sW sWV sOV ws wc wo wm wt hlen hlt nd good ek (host_good hm9) hoff ?em
            case eF => k_asm
            case eN => k_asm
            case es => walk_at "mine take"
            case et => exact ⟨_, _, .head _⟩
            case el => first | exact ltm_all (by with_reducible assumption) (by walk_at "mine down") | (rename _ ∧ _ => o9; first | exact allLt_ne o9.2.2.2.2.2 | exact allLt_ne o9.2.2.2.2.2.2)
            case e1 => k_ne
            case e2 => k_ne
            case e3 => k_ne
            case e4 => k_ne
            case e5 => k_ne
            case ey0 => assumption
            case ey1 => assumption
            case edH => assumption
            case efH => rw [hosts_snoc]; first | assumption | (dsimp only; rw [List.append_nil]; assumption)
            case edM => assumption
            case efM => rw [prom_snoc]; first | assumption | (dsimp only; rw [List.append_nil]; assumption)
            case edT => assumption
            case em =>
              intro z9 hz9
              have n1 : ¬ z9 = Str.ofString "port" := by rintro rfl; exact absurd hz9 (by decide)
              have n2 : ¬ z9 = Str.ofString "way" := by rintro rfl; exact absurd hz9 (by decide)
              simp only [if_neg n1, if_neg n2, hz9, Bool.false_eq_true, if_false]
          · rename _ ∈ ([100, 200] : List Int) => hm9
            refine' port_end (PT := PT) (k := k9) (oo := (srcOf x y tx ty kk, oH, oM, oT)) ?eF ?eN ?es ?et ?el ?e1 ?e2 ?e3 ?e4 ?e5 ?ey0 ?ey1 ?edH ?efH ?edM ?efM ?edT pT sW sWV sOV ws wc wo wm wt hlen hlt nd good ek (heard_good hm9) hoff ?em
            case eF => k_asm
            case eN => k_asm
            case es => walk_at "mine take"
            case et => exact ⟨_, _, .head _⟩
            case el => first | exact ltm_all (by with_reducible assumption) (by walk_at "mine down") | (rename _ ∧ _ => o9; first | exact allLt_ne o9.2.2.2.2.2 | exact allLt_ne o9.2.2.2.2.2.2)
            case e1 => k_ne
            case e2 => k_ne
            case e3 => k_ne
            case e4 => k_ne
            case e5 => k_ne
            case ey0 => assumption
            case ey1 => assumption
            case edH => assumption
            case efH => rw [hosts_snoc]; first | assumption | (dsimp only; rw [List.append_nil]; assumption)
            case edM => assumption
            case efM => rw [prom_snoc]; first | assumption | (dsimp only; rw [List.append_nil]; assumption)
            case edT => assumption
            case em =>
              intro z9 hz9
              have n1 : ¬ z9 = Str.ofString "port" := by rintro rfl; exact absurd hz9 (by decide)
              have n2 : ¬ z9 = Str.ofString "way" := by rintro rfl; exact absurd hz9 (by decide)
              simp only [if_neg n1, if_neg n2, hz9, Bool.false_eq_true, if_false]
          · refine' port_end (PT := PT) (k := k9) (oo := (srcOf x y tx ty kk, oH, oM, oT)) ?eF ?eN ?es ?et ?el ?e1 ?e2 ?e3 ?e4 ?e5 ?ey0 ?ey1 ?edH ?efH ?edM ?efM ?edT pT sW sWV sOV ws wc wo wm wt hlen hlt nd good ek other_good hoff ?em
            case eF => k_asm
            case eN => k_asm
            case es => walk_at "mine take"
            case et => exact ⟨_, .head _⟩
            case el => first | exact ltm_all (by with_reducible assumption) (by walk_at "mine down") | (rename _ ∧ _ => o9; first | exact allLt_ne o9.2.2.2.2.2 | exact allLt_ne o9.2.2.2.2.2.2)
            case e1 => k_ne
            case e2 => k_ne
            case e3 => k_ne
            case e4 => k_ne
            case e5 => k_ne
            case ey0 => assumption
            case ey1 => assumption
            case edH => assumption
            case efH => rw [hosts_snoc]; first | assumption | (dsimp only; rw [List.append_nil]; assumption)
            case edM => assumption
            case efM => rw [prom_snoc]; first | assumption | (dsimp only; rw [List.append_nil]; assumption)
            case edT => assumption
            case em =>
              intro z9 hz9
              have n1 : ¬ z9 = Str.ofString "port" := by rintro rfl; exact absurd hz9 (by decide)
              have n2 : ¬ z9 = Str.ofString "way" := by rintro rfl; exact absurd hz9 (by decide)
              simp only [if_neg n1, if_neg n2, hz9, Bool.false_eq_true, if_false]
        case done =>
          intro m₁ nx h tk hJ F' N'
          obtain ⟨hm, x, y, tx, ty, kk, oH, kvsH, oM, kvsM, oT, kvsT, PT, W, y0, y1, rfl, dH, fH, dM, fM, dT, pT, sW, ws, wc, wo, wm, wt, hlen, hlt, nd, good⟩ := hJ
          have hm2 := overlay_of hm
          rw [hm2] at F'
          clear hm2
          k_steps
          rename News _ _ _ _ => kN9
          have N9 := perm3 kN9
          have sT : ∀ q ∈ W, q ∈ (tb, oT) :: W := fun q hq => .tail _ hq
          exact ret _ P tb kd pd od md _ _ _ _ _ _ _ _ PT y0 y1 (by k_asm) N9 (.head _) (fun q hq => .tail _ (.tail _ (.tail _ (.tail _ (sW q (subY q hq)))))) (pvY.mono fun q hq => .tail _ (.tail _ (.tail _ (.tail _ (sW q hq))))) (kY.mono fun q hq => .tail _ (.tail _ (.tail _ (.tail _ (sW q hq))))) (pY.mono fun q hq => .tail _ (.tail _ (.tail _ (.tail _ (sW q hq))))) ⟨oH, kvsH, .tail _ (.head _), lo3, dH, fH⟩ ⟨oM, kvsM, .tail _ (.tail _ (.head _)), lo4, dM, fM⟩ ⟨oT, kvsT, .tail _ (.tail _ (.tail _ (.head _))), loT, dT, pT.mono fun q hq => .tail _ (.tail _ (.tail _ (.tail _ hq)))⟩ nd (by omega) good (off_4 (by k_ne) (by k_ne) (by k_ne) (by k_ne) ws) (off_4 (by k_ne) (by k_ne) (by k_ne) (by k_ne) wc)
end
end Mine
namespace Mine
theorem rowsP38_0 : True := by
  k_with_none
  k_with "mine down" => (first | exact fun _ h => h | (refine dn ?_; walk_at "mine down"))
  k_with "k_ne" => (first | with_reducible assumption | exact Ne.symm (by with_reducible assumption) | exact ltm_ne (by with_reducible assumption) (by k_mem) | exact ltm_en (by with_reducible assumption) (by k_mem) | exact Nat.ne_of_lt (by with_reducible assumption) | exact Nat.ne_of_gt (by with_reducible assumption) | exact ltm_c1 (by with_reducible assumption) (by k_mem) | exact ltm_d1 (by with_reducible assumption) (by k_mem) | exact ltm_c2 (by with_reducible assumption) (by k_mem) | exact ltm_d2 (by with_reducible assumption) (by k_mem) | exact ltm_c3 (by with_reducible assumption) (by k_mem) | exact ltm_d3 (by with_reducible assumption) (by k_mem) | exact ltm_c4 (by with_reducible assumption) (by k_mem) | exact ltm_d4 (by with_reducible assumption) (by k_mem) | exact ltm_c5 (by with_reducible assumption) (by k_mem) | exact ltm_d5 (by with_reducible assumption) (by k_mem) | (refine neN ?_; (try dsimp only); omega))
  k_with "k_all" => (first | exact ltm_all (by with_reducible assumption) (by walk_at "mine down") | exact ltm_a1 (by with_reducible assumption) (by walk_at "mine down") | exact ltm_a2 (by with_reducible assumption) (by walk_at "mine down") | exact ltm_a3 (by with_reducible assumption) (by walk_at "mine down") | exact ltm_a4 (by with_reducible assumption) (by walk_at "mine down") | exact ltm_a5 (by with_reducible assumption) (by walk_at "mine down"))
  trivial
open PyProof.Rows.LCg
section
variable {prog : Program} {w : World} {A : Around} {E : Value → Shared → Prop} {s : Shared} {R : Result → Shared → Prop} {h₀ : Heap} {L : Addr} {m : Str → Option Value} {env : Env}
variable {I ax C D : Addr} {j : Nat} {mc : Str → Option Value} {ys : List Value} {news : List (Addr × Obj)}
/-- an inner source of a comprehension: a new list of ints -/
def IterAt (prog : Program) (w : World) (A : Around) (h₀ : Heap) (L : Addr) (m : Str → Option Value) (env : Env) (scope : Scope) (cl : List (Str × Addr)) (x x₂ : Str) (it : Expr) (s : Shared) (news : List (Addr × Obj)) (v r : Value) (ns : List Int) : Prop :=
  ∀ I oI C oC D ys mc h tk Q E', NsObj oC mc → mc x = some v → mc x₂ = some r → Fr h₀ L h m → News h₀ L h ((I, oI) :: (C, oC) :: (D, lst ys) :: news) → Off3 I C D news → ((@Ne Nat I C) ∧ (@Ne Nat I D) ∧ (@Ne Nat C D)) →
    (∀ rr us k h' tk', IntsAre us ns → Fr h₀ L h' m → News h₀ L h' ((rr, listOf (List.toArray us) k) :: (I, oI) :: (C, oC) :: (D, lst ys) :: news) → ((@Ne Nat rr I) ∧ (@Ne Nat rr C) ∧ (@Ne Nat rr D)) → Q (.ref rr) { s with heap := h', toks := tk' }) →
    wpAny (model prog w) A (eval it (compEnvC scope cl C env)) Q E' { s with heap := h, toks := tk }
theorem vlans_turn {iter iter2 : Expr} {x x₂ y : Str} {px px₂ tp py pe : Pos} {tk0} {scope0 scope : Scope} {cl : List (Str × Addr)} {pos : Pos} {its : Array Value} {t r : Addr} {v₁ : Value} {ns : List Int} {s₀ : Shared}
    (hh : A.handled = none) (hx : (compEnvC scope cl C env).kindOf x = some .local) (hx₂ : (compEnvC scope cl C env).kindOf x₂ = some .local) (hy : (compEnvC scope cl C env).kindOf y = some .local) (hk : (compEnvC scope cl C env).scope.kind = .function) (hxx : x ≠ x₂)
    (hd : (y == ("__debug__" : Str)) = false) (hs : ∀ z, foldedSetIterable iter2 (compEnvC scope cl C env) z = pure z)
    (c : CW h₀ L m I ax j C mc D ys news s.heap) (S : SrcAt h₀ ax its news) (hj : its[j]? = some (.ref t)) (ht : (t, tupO [v₁, .ref r]) ∈ news) (hz : ys.length + ns.length ≤ 100) (hs₀ : ∃ h tk, s = { s₀ with heap := h, toks := tk })
    (IT : IterAt prog w A h₀ L m env scope cl x x₂ iter2 s₀ news v₁ (.ref r) ns)
    (K : ∀ h' tk mc' zs, IntsAre zs ns → CW h₀ L m I ax (j + 1) C mc' D (ys ++ zs) news h' →
      codeAny (model prog w) A (.compLoop (.ListComp (.Name y pe) [⟨.Tuple [.Name x px, .Name x₂ px₂] tk0 tp, iter, [], 0⟩, ⟨.Name y py, iter2, [], 0⟩] scope0 pos) 0 (.ref I) (.ref D) (compEnvC scope cl C env)) R { s with heap := h', toks := tk }) :
    codeAny (model prog w) A (.compLoop (.ListComp (.Name y pe) [⟨.Tuple [.Name x px, .Name x₂ px₂] tk0 tp, iter, [], 0⟩, ⟨.Name y py, iter2, [], 0⟩] scope0 pos) 0 (.ref I) (.ref D) (compEnvC scope cl C env)) R s := by
  obtain ⟨hp, tkp, rfl⟩ := hs₀
  refine two_turn hh rfl hx hx₂ hk hxx hs c S hj ht fun h' tk mc' E' e1 e2 c' => ?_
  refine wpAny_tests_nil ?_
  simp only [if_true]
  replace c' : CW h₀ L m I ax (j + 1) C mc' D ys news h' := c'
  obtain ⟨oI, oC, hc, hdI, hC', N⟩ := c'.led
  refine IT I oI C oC D ys mc' h' tk _ E' hC' e1 e2 c'.F N c'.off3 ⟨c'.IC, c'.ID, c'.CD⟩ fun rr us k h₄ tk₄ hu F₄ N₄ nr => ?_
  have off4 : Off3 I C D ((rr, listOf (List.toArray us) k) :: news) := Off3.of fun p hp => by
    rcases List.mem_cons.mp hp with rfl | hp
    · exact ⟨nr.1, nr.2.1, nr.2.2⟩
    · exact c'.off p hp
  have c₄ : CW h₀ L m I ax (j + 1) C mc' D ys ((rr, listOf (List.toArray us) k) :: news) h₄ := c'.of hc hdI hC' F₄ (fun p hp => N₄ p (by
    simp only [List.mem_cons] at hp ⊢
    rcases hp with h | h | h | h | h <;> simp only [h, true_or, or_true])) off4
  have hul := hu.length
  refine cw_inner (s := { s₀ with heap := h₄, toks := tk₄ }) c₄ (us := us.toArray) (.inr ⟨_, .head _, rfl, _, rfl⟩) fun J oI₅ h₅ hc₅ hd₅ c₅ _ => ?_
  refine start_inner (s := { s₀ with heap := h₅, toks := tk₄ }) c₅.hI ?_
  refine inner_name hh rfl hy hk hd (us := us) (ns := ns) (.inr ⟨_, .tail _ (.head _), rfl, _, rfl⟩) hu us.length 0 ys mc' { s₀ with heap := h₅, toks := tk₄ } (Nat.zero_add _) (by omega) c₅ fun h₆ tk₆ mc₆ zs hz F₆ N₆ hC₆ hD₆ => ⟨_, rfl, ?_⟩
  exact K h₆ tk₆ mc₆ zs (by rw [List.drop_zero] at hz; exact hz) ((c₄.back (J := J) (r := rr) (k := 0) hc₅ hd₅ F₆ N₆ hC₆ hD₆).sub fun p hp => .tail _ hp)
/-- [y for (x, x₂) in families for y in iter2] -/
theorem fam_vlans {iter iter2 : Expr} {x x₂ y : Str} {px px₂ tp py pe : Pos} {tk0} {scope : Scope} {cl : List (Str × Addr)} {pos : Pos} {K : Shared → Addr → List Value → List (Addr × Obj) → Prop} {f a1 a2 r1 r2 : Addr} {n : Nat} {v₁ v₂ : Value} {ns1 ns2 : List Int}
    (hh : A.handled = none) (hkind : scope.kind = .function) (hx : scope.names.lookup x = some .local) (hx₂ : scope.names.lookup x₂ = some .local) (hy : scope.names.lookup y = some .local) (hxx : x ≠ x₂)
    (hd : (y == ("__debug__" : Str)) = false) (hs : ∀ C z, foldedSetIterable iter2 (compEnvC scope cl C env) z = pure z)
    (F : Fr h₀ L s.heap m) (N : News h₀ L s.heap news) (hf : (f, listOf #[.ref a1, .ref a2] n) ∈ news) (h1 : (a1, tupO [v₁, .ref r1]) ∈ news) (h2 : (a2, tupO [v₂, .ref r2]) ∈ news) (z1 : ns1.length ≤ 20) (z2 : ns2.length ≤ 20)
    (T1 : IterAt prog w A h₀ L m env scope cl x x₂ iter2 s news v₁ (.ref r1) ns1) (T2 : IterAt prog w A h₀ L m env scope cl x x₂ iter2 s news v₂ (.ref r2) ns2)
    (hK : ∀ D ys, IntsAre ys (ns1 ++ ns2) → (∀ p ∈ news, @Ne Nat p.1 D) → K s D ys news) :
    CSrc prog w A h₀ L m env (.Name y pe) (.Tuple [.Name x px, .Name x₂ px₂] tk0 tp) iter [] [⟨.Name y py, iter2, [], 0⟩] scope cl pos K (.ref f) s := by
  have S : SrcAt h₀ f #[.ref a1, .ref a2] news := .inr ⟨_, hf, rfl, _, rfl⟩
  have hkd : ∀ C, (compEnvC scope cl C env).scope.kind = .function := fun C => by simp [compEnvC, relabel, hkind]
  refine ⟨f, #[.ref a1, .ref a2], news, fun ys => IntsAre ys (ns1 ++ ns2), rfl, F, N, S, fun I C D mc h tk c => ?_, hK⟩
  refine vlans_turn (s := { s with heap := h, toks := tk }) (s₀ := s) (r := r1) hh (lookup_relabel_local hx) (lookup_relabel_local hx₂) (lookup_relabel_local hy) (hkd C) hxx hd (hs C) c S rfl h1 (by show 0 + _ ≤ _; omega) ⟨h, tk, rfl⟩ T1 fun h' tk' mc' zs hz c' => ?_
  have hl : zs.length ≤ 20 := by rw [hz.length]; exact z1
  refine vlans_turn (s := { s with heap := h', toks := tk' }) (s₀ := s) (r := r2) hh (lookup_relabel_local hx) (lookup_relabel_local hx₂) (lookup_relabel_local hy) (hkd C) hxx hd (hs C) c' S rfl h2 (by rw [List.nil_append]; omega) ⟨h', tk', rfl⟩ T2 fun h'' tk'' mc'' zs' hz' c'' => ?_
  exact two_end hh (hs C) c'' S rfl (by rw [List.nil_append]; exact intsAre_append hz hz')
end
end Mine
namespace Mine
theorem rowsP39_0 : True := by
  k_with_none
  k_with "mine down" => (first | exact fun _ h => h | (refine dn ?_; walk_at "mine down"))
  k_with "k_ne" => (first | with_reducible assumption | exact Ne.symm (by with_reducible assumption) | exact ltm_ne (by with_reducible assumption) (by k_mem) | exact ltm_en (by with_reducible assumption) (by k_mem) | exact Nat.ne_of_lt (by with_reducible assumption) | exact Nat.ne_of_gt (by with_reducible assumption) | exact ltm_c1 (by with_reducible assumption) (by k_mem) | exact ltm_d1 (by with_reducible assumption) (by k_mem) | exact ltm_c2 (by with_reducible assumption) (by k_mem) | exact ltm_d2 (by with_reducible assumption) (by k_mem) | exact ltm_c3 (by with_reducible assumption) (by k_mem) | exact ltm_d3 (by with_reducible assumption) (by k_mem) | exact ltm_c4 (by with_reducible assumption) (by k_mem) | exact ltm_d4 (by with_reducible assumption) (by k_mem) | exact ltm_c5 (by with_reducible assumption) (by k_mem) | exact ltm_d5 (by with_reducible assumption) (by k_mem) | (refine neN ?_; (try dsimp only); omega))
  k_with "k_all" => (first | exact ltm_all (by with_reducible assumption) (by walk_at "mine down") | exact ltm_a1 (by with_reducible assumption) (by walk_at "mine down") | exact ltm_a2 (by with_reducible assumption) (by walk_at "mine down") | exact ltm_a3 (by with_reducible assumption) (by walk_at "mine down") | exact ltm_a4 (by with_reducible assumption) (by walk_at "mine down") | exact ltm_a5 (by with_reducible assumption) (by walk_at "mine down"))
  trivial
/-- all but the cells -/
def NC (a b : List (Addr × Obj)) : Prop := ∀ p ∈ a, (∀ v, p.2.data ≠ .cell v) → p ∈ b
theorem NC.of {a b : List (Addr × Obj)} (h : ∀ p ∈ a, p ∈ b) : NC a b := fun p hp _ => h p hp
theorem NC.trans {a b c : List (Addr × Obj)} (h : NC a b) (k : NC b c) : NC a c := fun p hp n => k p (h p hp n) n
theorem RowsIn.nc {a b : List (Addr × Obj)} (h : NC a b) {us : List Value} {R : List (Int × Str)} (x : RowsIn a us R) : RowsIn b us R := by
  induction x with
  | nil => exact .nil
  | cons q _ ih => obtain ⟨t1, t2, m⟩ := q; exact .cons ⟨t1, t2, h _ m (fun v e => by cases e)⟩ ih
theorem FamAt.nc {a b : List (Addr × Obj)} {f : Addr} {R1 R2 : List (Int × Str)} (x : FamAt a f R1 R2) (h : NC a b) : FamAt b f R1 R2 := by
  obtain ⟨n, a1, a2, r1, r2, t1, t2, m1, m2, m3, ⟨us, k, m4, q⟩, us', k', m5, q'⟩ := x
  exact ⟨n, a1, a2, r1, r2, t1, t2, h _ m1 (fun v e => by cases e), h _ m2 (fun v e => by cases e), h _ m3 (fun v e => by cases e), ⟨us, k, h _ m4 (fun v e => by cases e), q.nc h⟩, us', k', h _ m5 (fun v e => by cases e), q'.nc h⟩
theorem PrivAt.nc {a b : List (Addr × Obj)} {P kd pd od md : Addr} (x : PrivAt a P kd pd od md) (h : NC a b) : PrivAt b P kd pd od md :=
  let ⟨dx, h1, h2, h3, h4, t1, t2, t3, t4, n, m1, m2⟩ := x; ⟨dx, h1, h2, h3, h4, t1, t2, t3, t4, n, h _ m1 (fun v e => by cases e), h _ m2 (fun v e => by cases e)⟩
theorem dict_nc {w : World} {o : Obj} {kvs : List (Int × Value)} (h : o.IsDictOf (intKind PR w) kvs) (v) : o.data ≠ .cell v := fun e => by
  obtain ⟨es, ep, -, hx, -⟩ := h
  rw [e] at hx
  cases hx
theorem DictAt.nc {w : World} {a b : List (Addr × Obj)} {d : Addr} {D : List (PyData × PyData)} (x : DictAt w a d D) (h : NC a b) : DictAt w b d D :=
  let ⟨o, kvs, m, lo, c, e⟩ := x; ⟨o, kvs, h _ m (dict_nc c), lo, c, e⟩
theorem ToldAt.nc {x y : List (Addr × Obj)} {a : Addr} (k : NC x y) : ∀ {τ : Told}, ToldAt x a τ → ToldAt y a τ
  | .host _, ⟨t, t', h⟩ => ⟨t, t', k _ h (fun v e => by cases e)⟩
  | .heard _, ⟨t, t', h⟩ => ⟨t, t', k _ h (fun v e => by cases e)⟩
  | .other, ⟨t, h⟩ => ⟨t, k _ h (fun v e => by cases e)⟩
theorem PortsIn.nc {x y : List (Addr × Obj)} (k : NC x y) {kvs : List (Int × Value)} {PT : List (Int × Told)} (h : PortsIn x kvs PT) : PortsIn y kvs PT := by
  induction h with
  | nil => exact .nil
  | cons t _ ih => exact .cons (t.nc k) ih
theorem PortsAt.nc {w : World} {x y : List (Addr × Obj)} {tb : Addr} {PT : List (Int × Told)} (h : PortsAt w x tb PT) (k : NC x y) : PortsAt w y tb PT :=
  let ⟨o, kvs, a, b, c, d⟩ := h; ⟨o, kvs, k _ a (dict_nc c), b, c, d.nc k⟩
/-- the cells taken out of a ledger -/
theorem cells_out {h : Heap} {l : List (Addr × Obj)} {c1 c2 c3 : Addr} {o1 o2 o3 : Obj} {v1 v2 v3 : Option Value} (N : ∀ q ∈ l, h.get? q.1 = some q.2) (m1 : h.get? c1 = some o1) (m2 : h.get? c2 = some o2) (m3 : h.get? c3 = some o3)
    (k1 : o1.data = .cell v1) (k2 : o2.data = .cell v2) (k3 : o3.data = .cell v3) :
    ∃ Z, NC l Z ∧ (∀ q ∈ Z, q ∈ l) ∧ (∀ q ∈ Z, @Ne Nat q.1 c1) ∧ (∀ q ∈ Z, @Ne Nat q.1 c2) ∧ (∀ q ∈ Z, @Ne Nat q.1 c3) := by
  refine ⟨offs c1 (offs c2 (offs c3 l)), fun p hp n => offs_mem.mpr ⟨offs_mem.mpr ⟨offs_mem.mpr ⟨hp, fun e => ?_⟩, fun e => ?_⟩, fun e => ?_⟩, fun q hq => (offs_mem.mp (offs_mem.mp (offs_mem.mp hq).1).1).1, fun q hq => (offs_mem.mp hq).2, fun q hq => (offs_mem.mp (offs_mem.mp hq).1).2, fun q hq => (offs_mem.mp (offs_mem.mp (offs_mem.mp hq).1).1).2⟩
  · have z := N _ hp
    rw [e, m3] at z
    exact n _ (Option.some.inj z ▸ k3)
  · have z := N _ hp
    rw [e, m2] at z
    exact n _ (Option.some.inj z ▸ k2)
  · have z := N _ hp
    rw [e, m1] at z
    exact n _ (Option.some.inj z ▸ k1)
section
variable {prog : Program} {w : World} {A : Around} {E : Value → Shared → Prop} {s : Shared} {env : Env} {h₀ : Heap} {x : Str} {body : List Stmt} {Q : Flow → Shared → Prop}
/-- a loop over a range by an invariant of its ledger, the iterator's object in sight -/
theorem krs_inv {I : Addr} {a c : Int} {n : Nat} (stored : List Str) (m₀ : Str → Option Value) (hx : stored.contains x = true) (J : Nat → List (Addr × Obj) → Prop)
    (step : ∀ i nx (u : Str → Option Value) h tk x' l', i < n → J i nx → Fr h₀ env.locals h (fun z => if stored.contains z = true then u z else m₀ z) → News h₀ env.locals h ((I, krsIt x' l' c) :: nx) →
      wpAny (model prog w) A (execs body env) (UnrPost h₀ env.locals { s with heap := h, toks := tk } I (krsIt x' l' c) (fun m' n' => J (i + 1) n' ∧ ∀ z, stored.contains z = false → m' z = m₀ z) Q) E { s with heap := h, toks := tk })
    (done : ∀ nx (u : Str → Option Value) h tk, J n nx → Fr h₀ env.locals h (fun z => if stored.contains z = true then u z else m₀ z) → News h₀ env.locals h nx → Q .next { s with heap := h, toks := tk }) :
    ∀ (k i : Nat) (m : Str → Option Value) (nx : List (Addr × Obj)), i + k = n → J i nx → (∀ z, stored.contains z = false → m z = m₀ z) → KrsRest prog w A E h₀ env x body Q s I a c n k i m nx := by
  intro k
  induction k with
  | zero =>
    intro i m nx hi hJ hm
    have e : i = n := by omega
    subst e
    exact KrsRest.zero fun h tk F N => done nx m h tk hJ (overlay_of hm ▸ F) N
  | succ k ih =>
    intro i m nx hi hJ hm t h tk F N
    have hm' : ∀ z, stored.contains z = false → (fun y => if y = x then some (Value.int (a + (i : Int) * c) t) else m y) z = m₀ z := fun z hz => by
      have : z ≠ x := fun e => by rw [e, hx] at hz; cases hz
      simp only [if_neg this]
      exact hm z hz
    refine wpAny_mono (step i nx _ h tk _ _ (by omega) hJ (overlay_of hm' ▸ F) N) (fun f s₃ q => ?_) fun _ _ e => e
    have fin : UnrEnd h₀ env.locals { s with heap := h, toks := tk } I (krsIt (a + ((i + 1 : Nat) : Int) * c) ((n : Int) - ((i + 1 : Nat) : Int)) c) (fun m' n' => J (i + 1) n' ∧ ∀ z, stored.contains z = false → m' z = m₀ z) s₃ →
        UnrEnd h₀ env.locals { s with heap := h, toks := tk } I (krsIt (a + ((i + 1 : Nat) : Int) * c) ((n : Int) - ((i + 1 : Nat) : Int)) c) (KrsRest prog w A E h₀ env x body Q s I a c n k (i + 1)) s₃ := by
      rintro ⟨h', tk', m', n', e, F', N', off, hJ', hm'⟩
      exact ⟨h', tk', m', n', e, F', N', off, ih (i + 1) m' n' (by omega) hJ' hm'⟩
    cases f with
    | ret v => exact q
    | brk => exact q
    | next => exact fin q
    | cont => exact fin q
end
/-- the turn's iterator taken out of a ledger -/
theorem TabOk.offs {rest : List (Addr × Obj)} {ps : Array Value} {I : Addr} {x l c : Int} {h : Heap} (N : ∀ q ∈ rest, h.get? q.1 = some q.2) (mI : h.get? I = some (krsIt x l c)) (t : TabOk rest ps) : TabOk (offs I rest) ps :=
  ⟨t.1, fun pos => (t.2 pos).imp id fun ⟨c', oc, vs, t, a, b, d, e⟩ => ⟨c', oc, vs, t, a, offs_mem.mpr ⟨b, fun q => by
    have z := N _ b
    rw [q, mI] at z
    have z2 : krsIt x l c = oc := Option.some.inj z
    rw [← z2] at d
    have z3 : vs = #[rawInt x, rawInt l, rawInt c] := (Data.fields.inj d).symm
    rw [z3] at e
    have e' : rawInt l = Value.str QL t := Option.some.inj e
    cases e'⟩, d, e⟩⟩
end Mine
namespace Mine
theorem rowsP33_0 : True := by
  k_with_none
  k_with "mine down" => (first | exact fun _ h => h | (refine dn ?_; walk_at "mine down"))
  k_with "k_ne" => (first | with_reducible assumption | exact Ne.symm (by with_reducible assumption) | exact ltm_ne (by with_reducible assumption) (by k_mem) | exact ltm_en (by with_reducible assumption) (by k_mem) | exact Nat.ne_of_lt (by with_reducible assumption) | exact Nat.ne_of_gt (by with_reducible assumption) | exact ltm_c1 (by with_reducible assumption) (by k_mem) | exact ltm_d1 (by with_reducible assumption) (by k_mem) | exact ltm_c2 (by with_reducible assumption) (by k_mem) | exact ltm_d2 (by with_reducible assumption) (by k_mem) | exact ltm_c3 (by with_reducible assumption) (by k_mem) | exact ltm_d3 (by with_reducible assumption) (by k_mem) | exact ltm_c4 (by with_reducible assumption) (by k_mem) | exact ltm_d4 (by with_reducible assumption) (by k_mem) | exact ltm_c5 (by with_reducible assumption) (by k_mem) | exact ltm_d5 (by with_reducible assumption) (by k_mem) | (refine neN ?_; (try dsimp only); omega))
  k_with "k_all" => (first | exact ltm_all (by with_reducible assumption) (by walk_at "mine down") | exact ltm_a1 (by with_reducible assumption) (by walk_at "mine down") | exact ltm_a2 (by with_reducible assumption) (by walk_at "mine down") | exact ltm_a3 (by with_reducible assumption) (by walk_at "mine down") | exact ltm_a4 (by with_reducible assumption) (by walk_at "mine down") | exact ltm_a5 (by with_reducible assumption) (by walk_at "mine down"))
  trivial
theorem fill33 : (hd.heap_1 = hd.heap_1) ∧ (PySem.Challenge.rw_pb0538_01 = PySem.Challenge.rw_pb0538_01) := by k_fill; exact ⟨rfl, rfl⟩
theorem rowsP33_1 : True := by
  k_with "mine cx" => exact ⟨by k_asm, by k_asm, by k_asm, by k_asm, by k_asm, by first | exact rfl | assumption⟩
  k_with "mine sub" => (first | exact fun _ h => h | exact sub_skip (fun _ h => h) | exact sub_skip (sub_skip (fun _ h => h)) | exact sub_skip (sub_skip (sub_skip (fun _ h => h))) | exact sub_skip (sub_skip (sub_skip (sub_skip (fun _ h => h)))) | exact sub_skip (sub_skip (sub_skip (sub_skip (sub_skip (fun _ h => h))))) | exact sub_skip (sub_skip (sub_skip (sub_skip (sub_skip (sub_skip (fun _ h => h)))))) | exact sub_keep (sub_skip (fun _ h => h)) | exact sub_keep (sub_skip (sub_skip (fun _ h => h))) | exact sub_keep (sub_skip (sub_skip (sub_skip (fun _ h => h)))) | exact sub_keep (sub_skip (sub_skip (sub_skip (sub_skip (fun _ h => h))))) | exact sub_keep (sub_skip (sub_skip (sub_skip (sub_skip (sub_skip (fun _ h => h)))))) | exact sub_keep (sub_skip (sub_skip (sub_skip (sub_skip (sub_skip (sub_skip (fun _ h => h))))))))
  k_with "mine priv" => (first | assumption | exact PrivAt.mono (by assumption) (by walk_at "mine sub"))
  k_with "mine dict" => (first | assumption | exact DictAt.mono (by assumption) (by walk_at "mine sub"))
  k_with "mine room" => ((try simp only [depth_under_make, depth_under_kw, depth_in1, depth_deeper, depth_caller, units_in1, units_deeper, Around.mark_units, units_caller]); (try dsimp only [ktrTop]); omega)
  k_with "k_all" => assumption
  k_with "k_mem" => (first | exact List.Mem.head _ | ktr_member | (refine' List.mem_cons_of_mem _ ?_; k_mem))
  k_with "mine fresh" => (first | assumption | exact ltm_all (by with_reducible assumption) (by walk_at "mine down") | exact lt_ne (by assumption) | exact allLt_ne (by k_asm) | exact off1_mem (by k_asm) | (rename _ ∧ _ => o9; first | exact off1_mem o9.2 | exact off1_mem o9.2.2 | exact off1_mem o9.2.2.2 | exact allLt_ne o9.2 | exact allLt_ne o9.2.2 | exact allLt_ne o9.2.2.2))
  k_with "mine pull" => (repeat' (first | exact Pull.head | refine' Pull.tail ?_))
  k_with "mine in" => (first | exact List.Mem.head _ | (refine' List.Mem.tail _ ?_; walk_at "mine in"))
  k_with "mine rows" => (first | exact RowsIn.nil | (refine' RowsIn.cons ⟨_, _, ?zqm⟩ ?_; (case zqm => walk_at "mine in"); walk_at "mine rows"))
  k_with "mine off" => (first | assumption | (refine List.forall_mem_cons.mpr ⟨by k_ne, ?_⟩; walk_at "mine off"))
  k_with "mine fam" => (refine' ⟨_, _, _, _, _, _, _, ?zqm1, ?zqm2, ?zqm3, ⟨_, _, ?zqm4, ?zqm5⟩, _, _, ?zqm6, ?zqm7⟩; (case zqm1 => walk_at "mine in"); (case zqm2 => walk_at "mine in"); (case zqm3 => walk_at "mine in"); (case zqm4 => walk_at "mine in"); (case zqm5 => walk_at "mine rows"); (case zqm6 => walk_at "mine in"); (case zqm7 => walk_at "mine rows"))
  k_with "mine prB" => (first | exact prB_1 (by assumption) | exact prB_2 (by assumption) | exact prB_0 (by assumption) (by assumption))
  k_with "call builtin:sorted" => (k_here; (with_reducible show wpAny _ _ (call (Value.builtin "sorted") [Value.ref _]) _ _ _); k_dflt (refine sortL (by k_asm) (by k_asm) (by k_mem) (by assumption) (by assumption) ?_); intro D' h' tk' vs' k' F' N' l1 hi'; (try k_lt l1))
  k_with "k_all" => (first | assumption | exact lt_ne1 (by assumption) | exact lt_ne2 (by assumption) | exact lt_ne3 (by assumption) | exact lt_ne4 (by assumption))
  k_with "k_all" => (first | assumption | exact lt_ne (by assumption) | exact lt_ne1 (by assumption) | exact lt_ne2 (by assumption) | exact lt_ne3 (by assumption) | exact lt_ne4 (by assumption) | exact allLt_ne (by k_asm))
  k_with "mine priv" => (first | assumption | exact PrivAt.mono (by assumption) (by walk_at "mine sub") | exact ⟨_, _, _, _, _, _, _, _, _, _, (by k_mem), (by k_mem)⟩)
  k_with "mine dict" => (first | assumption | exact DictAt.mono (by assumption) (by walk_at "mine sub") | exact ⟨_, _, (by k_mem), (by assumption), (by assumption), (by assumption)⟩)
  k_with "k_all" => exact lt_ne_trans (by assumption) (by omega)
  k_with "mine ne" => (first | assumption | k_ne)
  k_with "mine few" => (first | assumption | exact Nat.le_of_ble_eq_true rfl)
  k_with "mine own" => (first | assumption | (intro x9 hx9; (try (have q9 := Option.some.inj hx9; subst q9; exact ⟨_, rfl⟩)); (repeat' (rcases List.mem_cons.mp hx9 with hx9 | hx9)) <;> first | exact absurd hx9 List.not_mem_nil | (subst hx9; exact ⟨_, rfl⟩)))
  k_with "call ref" => (k_here; (with_reducible show wpAny _ _ (call (Value.ref 180) _) _ _ _); k_dflt (refine' c_takeU ?zqcx ?zqU ?zqd ?zqu ?zqy1 ?zqy2 _ _ ?zqt1 ?zqt2 ?_; (case zqcx => walk_at "mine cx"); (case zqU => k_updF); (case zqd => walk_at "mine room"); (case zqu => walk_at "mine room"); (case zqy1 => assumption); (case zqy2 => assumption); (case zqt1 => first | assumption | omega); (case zqt2 => first | assumption | omega)); intro d' u' h' tk' x' y' tx' ty' k' hd0' hd1' hy0' hy1' F' N'; (try dsimp only at N'); (try dsimp only))
  k_with "mine ints" => (first | assumption | exact IntsAre.cons _ _ (IntsAre.cons _ _ (IntsAre.cons _ _ IntsAre.nil)) | exact IntsAre.cons _ _ (IntsAre.cons _ _ IntsAre.nil))
  k_with "call ref" => (k_here; (with_reducible show wpAny _ _ (call (Value.ref 187) _) _ _ _); k_dflt (refine' c_oneU ?zqcx ?zqU ?zqd ?zqu ?zqy1 ?zqy2 ?zqm ?zqn ?zqi ?zql0 ?zql1 ?_; (case zqcx => walk_at "mine cx"); (case zqm => k_mem); (case zqn => walk_at "mine ne"); (case zqU => k_updF); (case zqd => walk_at "mine room"); (case zqu => walk_at "mine room"); (case zqy1 => assumption); (case zqy2 => assumption); (case zqi => walk_at "mine ints"); (case zql0 => first | assumption | exact pos_of (by assumption) | exact pos_of' (by assumption) | exact Nat.le_of_ble_eq_true rfl); (case zql1 => first | assumption | exact Nat.le_of_ble_eq_true rfl)); intro d' u' h' tk' x' y' tx' ty' k' hm' hy0' hy1' F' N'; (try dsimp only at N'); (try dsimp only))
  k_with "k_all" => (first | assumption | exact lt_ne_le (by assumption) (by omega))
  k_with "subscriptTail" => (k_here; (with_reducible show wpAny _ _ (subscriptTail _ _ (Value.ref _) (Value.int _ _)) _ _ _); k_dflt (refine' kda_item (knd := PySem.intKind _ _) ?zqN ?zqm ?zqd (intKind_is _ _ _ _) ?zql ?_; (case zql => with_reducible assumption); (case zqd => with_reducible assumption); (case zqN => k_asm); (case zqm => k_mem)))
  k_with "subscriptTail Name Name ref int" => (k_here; k_dflt (refine' kda_item (knd := PySem.intKind _ _) ?zqN ?zqm ?zqd (intKind_is _ _ _ _) ?zql ?_; (case zql => with_reducible assumption); (case zqd => with_reducible assumption); (case zqN => k_asm); (case zqm => k_mem)))
  k_with "subscriptTail Subscript Name Name Constant ref int" => (k_here; k_dflt (refine' item_tupleT (News.isTup ?zqN ?zqm) (by decide) (by decide) ?zqj ?zqx ?_; (case zqN => k_asm); (case zqm => k_mem); (case zqj => rfl); (case zqx => rfl)))
  k_with "CompRestT" => (with_unfolding_all fail)
  k_with "CompEnd" => (k_here; refine LCg.CompEnd.intro (by k_asm) (by k_asm) _ (by walk_at "mine sub") (by assumption) (by k_mem) ?_)
  k_with "eval ListComp" => (k_here; lct_look; k_dflt (refine comp_dict (F₀ := by k_asm) (by with_unfolding_all rfl) (by decide) (by rfl) (by decide) (by rfl) ?_))
  k_with "mine sub" => (first | exact fun _ h => h | (with_reducible assumption) | (refine sub_in ?_ ?_; (· k_mem); (· walk_at "mine sub")) | (refine sub_out ?_; walk_at "mine sub"))
  k_with "eval Lambda" => (k_here; k_dflt (refine' mk_lambda ?zqF ?zqN ?zqT ?zqC ?zqU ?zqtab ?zqsub ?zqd ?zqq ?zqcl ?_; (case zqF => k_asm); (case zqN => k_asm); (case zqT => k_asm); (case zqC => kn_code); (case zqtab => assumption); (case zqU => k_updF); (case zqsub => walk_at "mine sub"); (case zqd => exact rfl); (case zqq => exact rfl); (case zqcl => exact rfl)); intro f' c' oc' vs' t' ct' ps' h' tk' pm' F' N' od' ov' tab' l1 lc; (try dsimp only at N'); have nc1 := lam_ne (d := 246) lc (by k_mem) (by assumption); have nc2 := lam_ne (o := srcOf _ _ _ _ _) lc (by k_mem) (by assumption); (try k_lt l1))
  k_with "compareOp Eq ref ref" => (k_here; k_dflt (refine ke_eq_ints (by exact ⟨_, (News.get (by k_asm) (by k_mem)), rfl, _, rfl⟩) (by exact ⟨_, (News.get (by k_asm) (by k_mem)), rfl, _, rfl⟩) (by assumption) IntsAre.nil (by ke_room) ?_))
  k_with "mine apart" => (first | (with_reducible assumption) | k_ne)
  k_with "call ref" => (k_here; (with_reducible show wpAny _ _ (call (Value.ref 194) _) _ _ _); k_dflt (refine' c_refuse ?zqcx ?zqXB ?zqTB ?zqD ?zqd ?zqu ?zqmf ?zqms ?zqtab ?_ ?_; (case zqcx => walk_at "mine cx"); (case zqXB => assumption); (case zqTB => assumption); (case zqD => assumption); (case zqd => walk_at "mine room"); (case zqu => walk_at "mine room"); (case zqmf => k_mem); (case zqms => k_mem); (case zqtab => assumption)); rotate_left; (intro h₁' h' tk' x' y' tx' ty' k' kT' F' N' B' X' T' D' hy0' hy1'))
  trivial
section
variable {w : World} {mean : ExcName → Option Value} {mg mb : Str → Option Value} {dp un : Nat} {gd : Option (List Code)} {cn : Str} {cs : Scope} {a : Addr} {ccd : Value} {cl : List (Str × Addr)} {outer : List Env} {A₀ : Around} {base h₀ : Heap} {L : Addr} {m : Str → Option Value} {s : Shared} {news : List (Addr × Obj)} {Q E : Value → Shared → Prop}
  {P kd pd od md : Addr} {DK : List (Int × Str)} {DP DH DM : List (Int × Int)}
theorem c_refusal_right {sd tb f : Addr} {ps : Array Value} {x y : Int} {tx ty : Tok} {k : Nat} {rest : List (Addr × Obj)} {PT : List (Int × Told)} (cx : Cx w mean mg mb [] A₀ base h₀ L m cs s.heap ((246, tabObj ps) :: (sd, srcOf x y tx ty k) :: rest))
    (XB : (_root_.Mine.hd.heap_1 w.params).In base) (TB : Top topProg LO mean mg mb base) (C : CodeHd base 248 246) (hd : dp + 16 ≤ 500) (hu : un + 160 ≤ 5000) (hy : 0 ≤ y) (hy2 : y < 2147483647) (n46 : @Ne Nat 246 sd) (o46 : ∀ q ∈ rest, q.1 ≠ 246) (osd : ∀ q ∈ rest, q.1 ≠ sd) (tab : TabOk rest ps)
    (hp : PrivAt rest P kd pd od md) (hK : DictAt w rest kd (IS DK)) (hP : DictAt w rest pd (II DP)) (hH : DictAt w rest od (II DH)) (hM : DictAt w rest md (II DM)) (hT : PortsAt w rest tb PT) (nd : (PT.map Prod.fst).Nodup) (hz : DK.length < 63) (hz2 : PT.length ≤ 60) (own : ∀ x ∈ DK.map Prod.fst, ∃ y, DP.lookup x = some y)
    (r0 : ∀ v ∈ ([100, 101, 200] : List Int), ∃ z, DK.lookup v = some z) (r1 : DK.lookup 300 = none) (r3 : (DK.lookup 101).getD "plain" = "isolated")
    (k1 : EkS DK DP "isolated" [100]) (k2 : EkS DK DP "community" [101, 50]) (k3 : EkS DK DP "alone" [200]) (k4 : EhA DK [100, 50]) (k5 : EpS DK [101, 50]) (k6 : EhB DH DM (takenF PT))
    (ret : ∀ h' tk' ps' x' y' tx' ty' k' rest', Fr h₀ L h' m → News h₀ L h' ((246, tabObj ps') :: (sd, srcOf x' y' tx' ty' k') :: rest') → (∀ p ∈ rest, p ∈ rest') → TabOk rest' ps' → (∀ q ∈ rest', q.1 ≠ 246) → (∀ q ∈ rest', q.1 ≠ sd) → 0 ≤ y' → y' < 2147483647 → Q (.bool true) { s with heap := h', toks := tk' }) :
    wpAny (model PR w) (ktrTop dp un gd cn cs L a ccd cl []) (call (.ref 249) [.ref sd, .ref P, .ref tb, .ref f]) Q E s := by
  obtain ⟨B, F, X, N, T, hk⟩ := cx
  have hp0 := hp
  obtain ⟨dx, i1, i2, i3, i4, j1, j2, j3, j4, n9, mP, mD⟩ := hp
  have hT0 := hT
  obtain ⟨oT, kvs, mT, loT, dT, hPT⟩ := hT
  have hlen := hPT.len
  have hl64 : (takenF PT).length < 64 := by
    unfold takenF
    rw [List.length_map]
    exact Nat.lt_of_le_of_lt (List.length_filter_le _ _) (by omega)
  refine wpAny_call ?_
  k_dflt (refine' code_SC0 ?k1 ?k2 ?k3 ?k4 ?k5 ?kA ?kF ?kK ?k6 ?k7 ?k8 ?k9 ?kB ?kD ?_ ?c2 ?c3 ?c4; (case kA => exact rfl); (case kF => exact rfl); (case kK => assumption); (case k1 => k_asm); (case k2 => k_asm); (case k3 => k_asm); (case k4 => k_asm); (case k5 => k_asm); (case k6 => k_is); (case k7 => k_is); (case k8 => ktr_room); (case k9 => exact BindsTo.of_eq rfl); (case kB => exact rfl); (case kD => decide +kernel); (case c2 => exact rfl); (case c3 => exact rfl); (case c4 => exact rfl); k_whole; intro g' L' h' tk' cells' FG' F' N' Y' B' X' T' D' l1; have lr := fun p hp => l1 p (List.Mem.tail _ (List.Mem.tail _ hp)); (try k_lt l1); have hY := cells5 Y'; obtain ⟨o1', o2', o3', o4', o5', hE', d1', d2', d3', d4', d5'⟩ := hY; subst hE'; clear Y'; (try simp only [List.cons_append, List.nil_append] at N'); (try dsimp only); (try k_fold))
  replace d5' : o5'.data = .cell (some (.ref sd)) := d5'
  replace d4' : o4'.data = .cell (some (.ref P)) := d4'
  replace d3' : o3'.data = .cell (some (.ref tb)) := d3'
  replace d2' : o2'.data = .cell none := d2'
  replace d1' : o1'.data = .cell none := d1'
  k_steps
  k_dflt (refine ⟨tb, oT, kvs, _, rfl, rfl, by k_asm, by k_asm, by k_mem, dT, loT, by rw [sizeLine_eq, hlen]; omega, ?_⟩)
  intro g9
  refine restT_all _ (fun i ys => IntsAre ys (takenF (PT.take i))) ?_ ?_ [] .nil
  · intro ys hys
    rw [hlen, List.take_length] at hys
    obtain ⟨z0, hz0⟩ := r0 _ (by assumption)
    iterate 11 (k_dflt walk1)
    rotate_left
    iterate 10 (k_dflt walk1)
    rotate_left
    iterate 10 (k_dflt walk1)
    rotate_left
    iterate 10 (k_dflt walk1)
    rotate_left
    iterate 10 (k_dflt walk1)
    rotate_left
    iterate 10 (k_dflt walk1)
    rotate_left
    · k_steps
      all_goals try (first
        | (rename decide _ = true => q9; rw [q9]; exact ret _ _ _ _ _ _ _ _ rest (by k_asm) (newsSub (by k_asm) (by walk_at "mine sub")) (fun _ h => h) tab o46 osd (by assumption) (by assumption))
        | (refine' ret _ _ _ _ _ _ _ _ _ ?qF ?qN ?qs ?qt ?q1 ?q2 ?q3 ?q4; (case qF => assumption); (case qN => assumption); (case qs => exact sub_out (fun _ h => h)); (case qt => assumption); (case q1 => exact List.forall_mem_cons.mpr ⟨by assumption, o46⟩); (case q2 => exact List.forall_mem_cons.mpr ⟨by assumption, osd⟩); (case q3 => assumption); (case q4 => assumption)))
      · refine' ⟨_, ?lq0, ?sq0⟩
        case' lq0 =>
          refine' lam6 ?qa0 ?qa1 ?qa2 ?qa3 ?qa4 ?qa5 ?qa6 ?qa7 ?qa8 ?qa9 ?qa10 ?qa11 ?qa12 ?qa13 ?qa14 ?qa15 ?qa16 ?qa17 ?qa18 ?qa19 ?qa20 ?qa21 ?qa22 ?qa23 ?qa24
          case qa0 => assumption
          case qa1 => assumption
          case qa2 => assumption
          case qa3 => assumption
          case qa4 => assumption
          case qa5 => walk_at "mine apart"
          case qa6 => walk_at "mine apart"
          case qa7 => walk_at "mine apart"
          case qa8 => walk_at "mine apart"
          case qa9 => walk_at "mine apart"
          case qa10 => walk_at "mine apart"
          case qa11 => assumption
          case qa12 => assumption
          case qa13 => assumption
          case qa14 => assumption
          case qa15 => assumption
          case qa16 => assumption
          case qa17 => assumption
          case qa18 => assumption
          case qa19 => assumption
          case qa20 => assumption
          case qa21 => assumption
          case qa22 => first | assumption | exact pos_of (by assumption) | exact pos_of' (by assumption)
          case qa23 => assumption
          case qa24 => walk_at "mine apart"
        case' sq0 => skip
        simp only [List.cons_append, List.nil_append]
        walk_at "mine sub"
    · k_steps
      all_goals try (first
        | (rename decide _ = true => q9; rw [q9]; exact ret _ _ _ _ _ _ _ _ rest (by k_asm) (newsSub (by k_asm) (by walk_at "mine sub")) (fun _ h => h) tab o46 osd (by assumption) (by assumption))
        | (refine' ret _ _ _ _ _ _ _ _ _ ?qF ?qN ?qs ?qt ?q1 ?q2 ?q3 ?q4; (case qF => assumption); (case qN => assumption); (case qs => exact sub_out (fun _ h => h)); (case qt => assumption); (case q1 => exact List.forall_mem_cons.mpr ⟨by assumption, o46⟩); (case q2 => exact List.forall_mem_cons.mpr ⟨by assumption, osd⟩); (case q3 => assumption); (case q4 => assumption)))
      · refine' ⟨_, ?lq1, ?sq1⟩
        case' lq1 =>
          refine' lam0 ?qa0 ?qa1 ?qa2 ?qa3 ?qa4 ?qa5 ?qa6 ?qa7 ?qa8 ?qa9 ?qa10 ?qa11 ?qa12 ?qa13 ?qa14 ?qa15
          case qa0 => assumption
          case qa1 => assumption
          case qa2 => assumption
          case qa3 => assumption
          case qa4 => assumption
          case qa5 => walk_at "mine apart"
          case qa6 => walk_at "mine apart"
          case qa7 => walk_at "mine apart"
          case qa8 => walk_at "mine apart"
          case qa9 => walk_at "mine apart"
          case qa10 => assumption
          case qa11 => assumption
          case qa12 => assumption
          case qa13 => assumption
          case qa14 => assumption
          case qa15 => assumption
        case' sq1 => skip
        simp only [List.cons_append, List.nil_append]
        walk_at "mine sub"
    · k_steps
      all_goals try (first
        | (rename decide _ = true => q9; rw [q9]; exact ret _ _ _ _ _ _ _ _ rest (by k_asm) (newsSub (by k_asm) (by walk_at "mine sub")) (fun _ h => h) tab o46 osd (by assumption) (by assumption))
        | (refine' ret _ _ _ _ _ _ _ _ _ ?qF ?qN ?qs ?qt ?q1 ?q2 ?q3 ?q4; (case qF => assumption); (case qN => assumption); (case qs => exact sub_out (fun _ h => h)); (case qt => assumption); (case q1 => exact List.forall_mem_cons.mpr ⟨by assumption, o46⟩); (case q2 => exact List.forall_mem_cons.mpr ⟨by assumption, osd⟩); (case q3 => assumption); (case q4 => assumption)))
      · refine' ⟨_, ?lq2, ?sq2⟩
        case' lq2 =>
          refine' lam1 ?qa0 ?qa1 ?qa2 ?qa3 ?qa4 ?qa5 ?qa6 ?qa7 ?qa8 ?qa9 ?qa10 ?qa11 ?qa12 ?qa13 ?qa14 ?qa15 ?qa16 ?qa17
          case qa0 => assumption
          case qa1 => assumption
          case qa2 => assumption
          case qa3 => assumption
          case qa4 => assumption
          case qa5 => walk_at "mine apart"
          case qa6 => walk_at "mine apart"
          case qa7 => walk_at "mine apart"
          case qa8 => walk_at "mine apart"
          case qa9 => assumption
          case qa10 => assumption
          case qa11 => assumption
          case qa12 => assumption
          case qa13 => assumption
          case qa14 => assumption
          case qa15 => assumption
          case qa16 => assumption
          case qa17 => assumption
        case' sq2 => skip
        simp only [List.cons_append, List.nil_append]
        walk_at "mine sub"
    · k_steps
      all_goals try (first
        | (rename decide _ = true => q9; rw [q9]; exact ret _ _ _ _ _ _ _ _ rest (by k_asm) (newsSub (by k_asm) (by walk_at "mine sub")) (fun _ h => h) tab o46 osd (by assumption) (by assumption))
        | (refine' ret _ _ _ _ _ _ _ _ _ ?qF ?qN ?qs ?qt ?q1 ?q2 ?q3 ?q4; (case qF => assumption); (case qN => assumption); (case qs => exact sub_out (fun _ h => h)); (case qt => assumption); (case q1 => exact List.forall_mem_cons.mpr ⟨by assumption, o46⟩); (case q2 => exact List.forall_mem_cons.mpr ⟨by assumption, osd⟩); (case q3 => assumption); (case q4 => assumption)))
      · refine' ⟨_, ?lq3, ?sq3⟩
        case' lq3 =>
          refine' lam2 ?qa0 ?qa1 ?qa2 ?qa3 ?qa4 ?qa5 ?qa6 ?qa7 ?qa8 ?qa9 ?qa10 ?qa11 ?qa12 ?qa13 ?qa14 ?qa15 ?qa16 ?qa17 ?qa18 ?qa19
          case qa0 => assumption
          case qa1 => assumption
          case qa2 => assumption
          case qa3 => assumption
          case qa4 => assumption
          case qa5 => walk_at "mine apart"
          case qa6 => walk_at "mine apart"
          case qa7 => walk_at "mine apart"
          case qa8 => walk_at "mine apart"
          case qa9 => walk_at "mine apart"
          case qa10 => assumption
          case qa11 => assumption
          case qa12 => assumption
          case qa13 => assumption
          case qa14 => assumption
          case qa15 => assumption
          case qa16 => assumption
          case qa17 => assumption
          case qa18 => assumption
          case qa19 => assumption
        case' sq3 => skip
        simp only [List.cons_append, List.nil_append]
        walk_at "mine sub"
    · k_steps
      all_goals try (first
        | (rename decide _ = true => q9; rw [q9]; exact ret _ _ _ _ _ _ _ _ rest (by k_asm) (newsSub (by k_asm) (by walk_at "mine sub")) (fun _ h => h) tab o46 osd (by assumption) (by assumption))
        | (refine' ret _ _ _ _ _ _ _ _ _ ?qF ?qN ?qs ?qt ?q1 ?q2 ?q3 ?q4; (case qF => assumption); (case qN => assumption); (case qs => exact sub_out (fun _ h => h)); (case qt => assumption); (case q1 => exact List.forall_mem_cons.mpr ⟨by assumption, o46⟩); (case q2 => exact List.forall_mem_cons.mpr ⟨by assumption, osd⟩); (case q3 => assumption); (case q4 => assumption)))
      · refine' ⟨_, ?lq4, ?sq4⟩
        case' lq4 =>
          refine' lam3 ?qa0 ?qa1 ?qa2 ?qa3 ?qa4 ?qa5 ?qa6 ?qa7 ?qa8 ?qa9 ?qa10 ?qa11 ?qa12 ?qa13 ?qa14 ?qa15 ?qa16 ?qa17
          case qa0 => assumption
          case qa1 => assumption
          case qa2 => assumption
          case qa3 => assumption
          case qa4 => assumption
          case qa5 => walk_at "mine apart"
          case qa6 => walk_at "mine apart"
          case qa7 => walk_at "mine apart"
          case qa8 => walk_at "mine apart"
          case qa9 => assumption
          case qa10 => assumption
          case qa11 => assumption
          case qa12 => assumption
          case qa13 => assumption
          case qa14 => assumption
          case qa15 => assumption
          case qa16 => assumption
          case qa17 => assumption
        case' sq4 => skip
        simp only [List.cons_append, List.nil_append]
        walk_at "mine sub"
    · k_steps
      all_goals try (first
        | (rename decide _ = true => q9; rw [q9]; exact ret _ _ _ _ _ _ _ _ rest (by k_asm) (newsSub (by k_asm) (by walk_at "mine sub")) (fun _ h => h) tab o46 osd (by assumption) (by assumption))
        | (refine' ret _ _ _ _ _ _ _ _ _ ?qF ?qN ?qs ?qt ?q1 ?q2 ?q3 ?q4; (case qF => assumption); (case qN => assumption); (case qs => exact sub_out (fun _ h => h)); (case qt => assumption); (case q1 => exact List.forall_mem_cons.mpr ⟨by assumption, o46⟩); (case q2 => exact List.forall_mem_cons.mpr ⟨by assumption, osd⟩); (case q3 => assumption); (case q4 => assumption)))
      · refine' ⟨_, ?lq5, ?sq5⟩
        case' lq5 =>
          refine' lam4 ?qa0 ?qa1 ?qa2 ?qa3 ?qa4 ?qa5 ?qa6 ?qa7 ?qa8 ?qa9 ?qa10 ?qa11 ?qa12 ?qa13 ?qa14 ?qa15 ?qa16 ?qa17
          case qa0 => assumption
          case qa1 => assumption
          case qa2 => assumption
          case qa3 => assumption
          case qa4 => assumption
          case qa5 => walk_at "mine apart"
          case qa6 => walk_at "mine apart"
          case qa7 => walk_at "mine apart"
          case qa8 => walk_at "mine apart"
          case qa9 => walk_at "mine apart"
          case qa10 => assumption
          case qa11 => assumption
          case qa12 => assumption
          case qa13 => assumption
          case qa14 => assumption
          case qa15 => assumption
          case qa16 => assumption
          case qa17 => assumption
        case' sq5 => skip
        simp only [List.cons_append, List.nil_append]
        walk_at "mine sub"
    · k_steps
      all_goals try (first
        | (rename decide _ = true => q9; rw [q9]; exact ret _ _ _ _ _ _ _ _ rest (by k_asm) (newsSub (by k_asm) (by walk_at "mine sub")) (fun _ h => h) tab o46 osd (by assumption) (by assumption))
        | (refine' ret _ _ _ _ _ _ _ _ _ ?qF ?qN ?qs ?qt ?q1 ?q2 ?q3 ?q4; (case qF => assumption); (case qN => assumption); (case qs => exact sub_out (fun _ h => h)); (case qt => assumption); (case q1 => exact List.forall_mem_cons.mpr ⟨by assumption, o46⟩); (case q2 => exact List.forall_mem_cons.mpr ⟨by assumption, osd⟩); (case q3 => assumption); (case q4 => assumption)))
      · refine' ⟨_, ?lq6, ?sq6⟩
        case' lq6 =>
          refine' lam5 ?qa0 ?qa1 ?qa2 ?qa3 ?qa4 ?qa5 ?qa6 ?qa7 ?qa8 ?qa9 ?qa10 ?qa11 ?qa12 ?qa13 ?qa14 ?qa15
          case qa0 => assumption
          case qa1 => assumption
          case qa2 => assumption
          case qa3 => assumption
          case qa4 => assumption
          case qa5 => walk_at "mine apart"
          case qa6 => walk_at "mine apart"
          case qa7 => walk_at "mine apart"
          case qa8 => walk_at "mine apart"
          case qa9 => walk_at "mine apart"
          case qa10 => assumption
          case qa11 => assumption
          case qa12 => assumption
          case qa13 => assumption
          case qa14 => assumption
          case qa15 => assumption
        case' sq6 => skip
        simp only [List.cons_append, List.nil_append]
        walk_at "mine sub"
  · intro i ys v9 hi hys pv I' oI' C' oC' D' m' h' tk' E' hC' hx' F' N' off' ne'
    obtain ⟨k9, x9, hk9, hv9⟩ := pv
    obtain ⟨t9, rfl⟩ := Value.isInt_shape hv9
    obtain ⟨a9, τ, rfl, hp9, ht9⟩ := hPT.get hk9
    have hv := valueAt_of_get (by rw [hPT.keys]; exact nd) hk9
    have hsn := taken_snoc hp9
    cases τ with
    | other =>
      obtain ⟨u1, ht⟩ := ht9
      k_steps
      all_goals (rw [hsn]; simpa [isTold] using hys)
    | heard z =>
      obtain ⟨u1, u2, ht⟩ := ht9
      k_steps
      all_goals (rw [hsn]; exact ints_snoc hys)
    | host z =>
      obtain ⟨u1, u2, ht⟩ := ht9
      k_steps
      all_goals (rw [hsn]; exact ints_snoc hys)
end
end Mine
namespace Mine
theorem rowsP40_0 : True := by
  k_with_none
  k_with "mine down" => (first | exact fun _ h => h | (refine dn ?_; walk_at "mine down"))
  k_with "k_ne" => (first | with_reducible assumption | exact Ne.symm (by with_reducible assumption) | exact ltm_ne (by with_reducible assumption) (by k_mem) | exact ltm_en (by with_reducible assumption) (by k_mem) | exact Nat.ne_of_lt (by with_reducible assumption) | exact Nat.ne_of_gt (by with_reducible assumption) | exact ltm_c1 (by with_reducible assumption) (by k_mem) | exact ltm_d1 (by with_reducible assumption) (by k_mem) | exact ltm_c2 (by with_reducible assumption) (by k_mem) | exact ltm_d2 (by with_reducible assumption) (by k_mem) | exact ltm_c3 (by with_reducible assumption) (by k_mem) | exact ltm_d3 (by with_reducible assumption) (by k_mem) | exact ltm_c4 (by with_reducible assumption) (by k_mem) | exact ltm_d4 (by with_reducible assumption) (by k_mem) | exact ltm_c5 (by with_reducible assumption) (by k_mem) | exact ltm_d5 (by with_reducible assumption) (by k_mem) | (refine neN ?_; (try dsimp only); omega))
  k_with "k_all" => (first | exact ltm_all (by with_reducible assumption) (by walk_at "mine down") | exact ltm_a1 (by with_reducible assumption) (by walk_at "mine down") | exact ltm_a2 (by with_reducible assumption) (by walk_at "mine down") | exact ltm_a3 (by with_reducible assumption) (by walk_at "mine down") | exact ltm_a4 (by with_reducible assumption) (by walk_at "mine down") | exact ltm_a5 (by with_reducible assumption) (by walk_at "mine down"))
  trivial
theorem fill40 : (hd.heap_1 = hd.heap_1) ∧ (PySem.Challenge.rw_pb0538_01 = PySem.Challenge.rw_pb0538_01) := by k_fill; exact ⟨rfl, rfl⟩
theorem rowsP40_1 : True := by
  k_with "mine cx" => exact ⟨by k_asm, by k_asm, by k_asm, by k_asm, by k_asm, by first | exact rfl | assumption⟩
  k_with "mine sub" => (first | exact fun _ h => h | exact sub_skip (fun _ h => h) | exact sub_skip (sub_skip (fun _ h => h)) | exact sub_skip (sub_skip (sub_skip (fun _ h => h))) | exact sub_skip (sub_skip (sub_skip (sub_skip (fun _ h => h)))) | exact sub_skip (sub_skip (sub_skip (sub_skip (sub_skip (fun _ h => h))))) | exact sub_skip (sub_skip (sub_skip (sub_skip (sub_skip (sub_skip (fun _ h => h)))))) | exact sub_keep (sub_skip (fun _ h => h)) | exact sub_keep (sub_skip (sub_skip (fun _ h => h))) | exact sub_keep (sub_skip (sub_skip (sub_skip (fun _ h => h)))) | exact sub_keep (sub_skip (sub_skip (sub_skip (sub_skip (fun _ h => h))))) | exact sub_keep (sub_skip (sub_skip (sub_skip (sub_skip (sub_skip (fun _ h => h)))))) | exact sub_keep (sub_skip (sub_skip (sub_skip (sub_skip (sub_skip (sub_skip (fun _ h => h))))))))
  k_with "mine priv" => (first | assumption | exact PrivAt.mono (by assumption) (by walk_at "mine sub"))
  k_with "mine dict" => (first | assumption | exact DictAt.mono (by assumption) (by walk_at "mine sub"))
  k_with "mine room" => ((try simp only [depth_under_make, depth_under_kw, depth_in1, depth_deeper, depth_caller, units_in1, units_deeper, Around.mark_units, units_caller]); (try dsimp only [ktrTop]); omega)
  k_with "k_all" => assumption
  k_with "k_mem" => (first | exact List.Mem.head _ | ktr_member | (refine' List.mem_cons_of_mem _ ?_; k_mem))
  k_with "mine fresh" => (first | assumption | exact ltm_all (by with_reducible assumption) (by walk_at "mine down") | exact lt_ne (by assumption) | exact allLt_ne (by k_asm) | exact off1_mem (by k_asm) | (rename _ ∧ _ => o9; first | exact off1_mem o9.2 | exact off1_mem o9.2.2 | exact off1_mem o9.2.2.2 | exact allLt_ne o9.2 | exact allLt_ne o9.2.2 | exact allLt_ne o9.2.2.2))
  k_with "mine pull" => (repeat' (first | exact Pull.head | refine' Pull.tail ?_))
  k_with "mine in" => (first | exact List.Mem.head _ | (refine' List.Mem.tail _ ?_; walk_at "mine in"))
  k_with "mine rows" => (first | exact RowsIn.nil | (refine' RowsIn.cons ⟨_, _, ?zqm⟩ ?_; (case zqm => walk_at "mine in"); walk_at "mine rows"))
  k_with "mine off" => (first | assumption | (refine List.forall_mem_cons.mpr ⟨by k_ne, ?_⟩; walk_at "mine off"))
  k_with "mine fam" => (refine' ⟨_, _, _, _, _, _, _, ?zqm1, ?zqm2, ?zqm3, ⟨_, _, ?zqm4, ?zqm5⟩, _, _, ?zqm6, ?zqm7⟩; (case zqm1 => walk_at "mine in"); (case zqm2 => walk_at "mine in"); (case zqm3 => walk_at "mine in"); (case zqm4 => walk_at "mine in"); (case zqm5 => walk_at "mine rows"); (case zqm6 => walk_at "mine in"); (case zqm7 => walk_at "mine rows"))
  k_with "mine enterC" => (refine' code_defC ?zqk1 ?zqk2 ?zqk3 ?zqk4 ?zqk5 ?zqkA ?zqkF ?zqkK ?zqk6 ?zqk7 ?zqk8 ?zqk9 ?zqkB ?zqkD ?_ ?zqc2 ?zqc3 ?zqc4; (case zqkA => exact rfl); (case zqkF => exact rfl); (case zqkK => assumption); (case zqk1 => k_asm); (case zqk2 => k_asm); (case zqk3 => k_asm); (case zqk4 => k_asm); (case zqk5 => k_asm); (case zqk6 => k_is); (case zqk7 => k_is); (case zqk8 => ktr_room); (case zqk9 => exact BindsTo.of_eq rfl); (case zqkB => exact rfl); (case zqkD => decide +kernel); (case zqc2 => exact rfl); (case zqc3 => exact rfl); (case zqc4 => exact rfl); k_whole; intro g' L' h' tk' cells' FG' F' N' Y' B' X' T' l1; (try k_lt l1); k_cells Y'; (try simp only [List.cons_append, List.nil_append] at N'); (try dsimp only); (try k_fold))
  k_with "mine prB" => (first | exact prB_1 (by assumption) | exact prB_2 (by assumption) | exact prB_0 (by assumption) (by assumption))
  k_with "call builtin:sorted" => (k_here; (with_reducible show wpAny _ _ (call (Value.builtin "sorted") [Value.ref _]) _ _ _); k_dflt (refine sortL (by k_asm) (by k_asm) (by k_mem) (by assumption) (by assumption) ?_); intro D' h' tk' vs' k' F' N' l1 hi'; (try k_lt l1))
  k_with "k_all" => (first | assumption | exact lt_ne1 (by assumption) | exact lt_ne2 (by assumption) | exact lt_ne3 (by assumption) | exact lt_ne4 (by assumption))
  k_with "k_all" => (first | assumption | exact lt_ne (by assumption) | exact lt_ne1 (by assumption) | exact lt_ne2 (by assumption) | exact lt_ne3 (by assumption) | exact lt_ne4 (by assumption) | exact allLt_ne (by k_asm))
  k_with "mine priv" => (first | assumption | exact PrivAt.mono (by assumption) (by walk_at "mine sub") | exact ⟨_, _, _, _, _, _, _, _, _, _, (by k_mem), (by k_mem)⟩)
  k_with "mine dict" => (first | assumption | exact DictAt.mono (by assumption) (by walk_at "mine sub") | exact ⟨_, _, (by k_mem), (by assumption), (by assumption), (by assumption)⟩)
  k_with "k_all" => exact lt_ne_trans (by assumption) (by omega)
  k_with "mine ne" => (first | assumption | k_ne)
  k_with "mine few" => (first | assumption | exact Nat.le_of_ble_eq_true rfl)
  k_with "mine own" => (first | assumption | (intro x9 hx9; (try (have q9 := Option.some.inj hx9; subst q9; exact ⟨_, rfl⟩)); (repeat' (rcases List.mem_cons.mp hx9 with hx9 | hx9)) <;> first | exact absurd hx9 List.not_mem_nil | (subst hx9; exact ⟨_, rfl⟩)))
  k_with "call ref" => (k_here; (with_reducible show wpAny _ _ (call (Value.ref 79) _) _ _ _); k_dflt (refine' c_add_primaryU ?zqcx ?zqU1 ?zqU2 ?zqd ?zqu ?zqp ?zqn ?zql1 ?zql2 ?zqdK ?zqfK ?zqz1 ?zqdP ?zqfP ?zqz2 _ _ ?zqe1 ?zqe2 ?_; (case zqcx => walk_at "mine cx"); (case zqp => walk_at "mine priv"); (case zqU1 => k_updF); (case zqU2 => (intro _; (try dsimp only); k_updF)); (case zqd => walk_at "mine room"); (case zqu => walk_at "mine room"); (case zqn => walk_at "mine ne"); (case zql1 => assumption); (case zql2 => assumption); (case zqdK => assumption); (case zqfK => assumption); (case zqz1 => walk_at "mine few"); (case zqdP => assumption); (case zqfP => assumption); (case zqz2 => walk_at "mine few"); (case zqe1 => first | assumption | rfl); (case zqe2 => first | assumption | rfl)); intro h' tk' oK' kvsK' oP' kvsP' F' N' dK' fK' dP' fP'; (try dsimp only at N'))
  k_with "call ref" => (k_here; (with_reducible show wpAny _ _ (call (Value.ref 84) [_, _, _, Value.str (Str.ofString "isolated") _]) _ _ _); k_dflt (refine' c_add_isoU ?zqcx ?zqU1 ?zqU2 ?zqd ?zqu ?zqp ?zqn ?zql1 ?zql2 ?zqdK ?zqfK ?zqz1 ?zqdP ?zqfP ?zqz2 _ _ _ _ _ ?zqo ?zqs ?zqe1 ?zqe2 ?zqe3 ?_; (case zqcx => walk_at "mine cx"); (case zqp => walk_at "mine priv"); (case zqU1 => k_updF); (case zqU2 => (intro _; (try dsimp only); k_updF)); (case zqd => walk_at "mine room"); (case zqu => walk_at "mine room"); (case zqn => walk_at "mine ne"); (case zql1 => assumption); (case zql2 => assumption); (case zqdK => assumption); (case zqfK => assumption); (case zqz1 => walk_at "mine few"); (case zqdP => assumption); (case zqfP => assumption); (case zqz2 => walk_at "mine few"); (case zqo => walk_at "mine own"); (case zqs => first | assumption | rfl); (case zqe1 => first | assumption | rfl); (case zqe2 => first | assumption | rfl); (case zqe3 => first | assumption | rfl)); intro h' tk' oK' kvsK' oP' kvsP' F' N' dK' fK' dP' fP'; (try dsimp only at N'))
  k_with "call ref" => (k_here; (with_reducible show wpAny _ _ (call (Value.ref 98) _) _ _ _); k_dflt (refine' c_set_hostU ?zqcx ?zqU ?zqd ?zqu ?zqp ?zqK ?zqM ?zqn1 ?zqn2 ?zql ?zqdH ?zqfH ?zqz _ _ _ _ ?zqe1 ?zqe2 ?zqe3 ?_; (case zqcx => walk_at "mine cx"); (case zqp => walk_at "mine priv"); (case zqU => k_updF); (case zqd => walk_at "mine room"); (case zqu => walk_at "mine room"); (case zqK => walk_at "mine dict"); (case zqM => walk_at "mine dict"); (case zqn1 => walk_at "mine ne"); (case zqn2 => walk_at "mine ne"); (case zql => assumption); (case zqdH => assumption); (case zqfH => assumption); (case zqz => walk_at "mine few"); (case zqe1 => first | assumption | rfl); (case zqe2 => first | assumption | rfl); (case zqe3 => first | assumption | exact Or.inl rfl | exact Or.inr rfl)); intro h' tk' oH' kvsH' F' N' dH' fH'; (try dsimp only at N'))
  k_with "call ref" => (k_here; (with_reducible show wpAny _ _ (call (Value.ref 159) _) _ _ _); k_dflt (refine' c_lets_is ?zqcx ?zqd ?zqu ?zqp ?zqK ?zqP ?zqH ?zqM _ _ _ _ ?zqo ?zqe ?_; (case zqcx => walk_at "mine cx"); (case zqd => walk_at "mine room"); (case zqu => walk_at "mine room"); (case zqp => walk_at "mine priv"); (case zqK => walk_at "mine dict"); (case zqP => walk_at "mine dict"); (case zqH => walk_at "mine dict"); (case zqM => walk_at "mine dict"); (case zqo => assumption); (case zqe => assumption)); intro r' h' tk' F' N' hr'; subst hr'; (try dsimp only))
  k_with "call ref" => (k_here; (with_reducible show wpAny _ _ (call (Value.ref 162) _) _ _ _); k_dflt (refine' c_new ?zqcx ?zqd ?zqu ?_; (case zqcx => walk_at "mine cx"); (case zqd => walk_at "mine room"); (case zqu => walk_at "mine room")); intro P' dx' kd' pd' od' md' o1' o2' o3' o4' t1' t2' t3' t4' i1' i2' i3' i4' n' h' tk' F' N' d1' d2' d3' d4' lo1' lo2' lo3' lo4' l1' l2' l3' l4' l5' l6'; have f1' : FlatPairs PyData.int [] (IS []) := .nil; have f2' : FlatPairs PyData.int [] (II []) := .nil)
  k_with "call ref" => (k_here; (with_reducible show wpAny _ _ (call (Value.ref 84) [_, _, _, Value.str (Str.ofString "community") _]) _ _ _); k_dflt (refine' c_add_comU ?zqcx ?zqU1 ?zqU2 ?zqd ?zqu ?zqp ?zqn ?zql1 ?zql2 ?zqdK ?zqfK ?zqz1 ?zqdP ?zqfP ?zqz2 _ _ _ _ _ ?zqe1 ?zqe2 ?zqe3 ?_; (case zqcx => walk_at "mine cx"); (case zqp => walk_at "mine priv"); (case zqU1 => k_updF); (case zqU2 => (intro _; (try dsimp only); k_updF)); (case zqd => walk_at "mine room"); (case zqu => walk_at "mine room"); (case zqn => walk_at "mine ne"); (case zql1 => assumption); (case zql2 => assumption); (case zqdK => assumption); (case zqfK => assumption); (case zqz1 => walk_at "mine few"); (case zqdP => assumption); (case zqfP => assumption); (case zqz2 => walk_at "mine few"); (case zqe1 => first | assumption | rfl); (case zqe2 => first | assumption | rfl); (case zqe3 => first | assumption | rfl)); intro h' tk' oK' kvsK' oP' kvsP' F' N' dK' fK' dP' fP'; (try dsimp only at N'))
  k_with "call ref" => (k_here; (with_reducible show wpAny _ _ (call (Value.ref 180) _) _ _ _); k_dflt (refine' c_takeU ?zqcx ?zqU ?zqd ?zqu ?zqy1 ?zqy2 _ _ ?zqt1 ?zqt2 ?_; (case zqcx => walk_at "mine cx"); (case zqU => k_updF); (case zqd => walk_at "mine room"); (case zqu => walk_at "mine room"); (case zqy1 => assumption); (case zqy2 => assumption); (case zqt1 => first | assumption | omega); (case zqt2 => first | assumption | omega)); intro d' u' h' tk' x' y' tx' ty' k' hd0' hd1' hy0' hy1' F' N'; (try dsimp only at N'); (try dsimp only))
  k_with "exec For Tuple Name cons nil" => (k_here; (rename Fr _ _ _ _ => lF'); (with_unfolding_all refine' For_turns lF' ?_; k_whole))
  k_with "pyIter ref" => (k_here; k_dflt (refine iter_listTurns (by rfl) (by k_asm) (by k_asm) (by k_mem) rfl rfl ?_); intro I' l1; have l1b := l1; (try k_lt l1))
  k_with "ItemsRest" => (with_unfolding_all first
    | (refine ItemsRest.val ?_; intro h' tk' F'; refine AllObj.cons (fun o' hc' => ?_); refine AllObj.nil (fun N' => ?_); (try simp only [List.cons_append, List.nil_append] at N'))
    | (refine ItemsRest.zero ?_; intro h' tk' F' N'))
  k_with "mine lt" => (first | assumption | (refine' lt_same ?zqha ?zqhb; (case zqha => assumption); (case zqhb => exact rfl)))
  k_with "UnrEndW" => (k_here; refine unrEnd (by k_asm) (by k_asm) (off_one (by walk_at "mine lt")) ⟨subL_of (by k_mem), ?_⟩)
  k_with "mine stored" => (intro z9 hz9; (try dsimp only); (repeat' split) <;> first | rfl | exact absurd hz9 (by subst_vars; decide) | exact absurd hz9 (by rename _ = true => e9; rw [e9]; decide))
  k_with "exec Assign cons ListComp" => (k_here; k_dflt (refine comp_assign (F₀ := by k_asm) (by rfl) (by with_unfolding_all rfl) (by with_unfolding_all rfl) (by decide) (by rfl) (by decide) (by rfl) (by rfl) ?_ (fun _ => rfl)))
  k_with "mine sub" => (first | exact fun _ h => h | (with_reducible assumption) | (refine sub_o ?_; walk_at "mine sub"))
  k_with "exec For Name Call cons nil" => (k_here; (rename Fr _ _ _ _ => lF'); (with_unfolding_all refine' For_invVF lF' ?zqk1 ?zqk2 ?_; (case zqk1 => exact rfl); (case zqk2 => exact rfl); k_whole))
  k_with "call type:range" => (k_here; (rename Fr _ _ _ _ => F'); (rename News _ _ _ _ => N'); (with_unfolding_all refine range2_rows F' N' ?_); intro h' tk' t1' u1' v1' rg' F' N' kp')
  k_with "pyIter ref" => (k_here; (with_reducible show wpAny _ _ (pyIter (Value.ref _)) (fun it s₂ => LoopAtV _ _ _ _ _ _ _ _ _ it s₂) _ _); refine Held.out ?_)
  k_with "mine ints" => (first | assumption | exact IntsAre.cons _ _ (IntsAre.cons _ _ IntsAre.nil))
  k_with "call ref" => (k_here; (with_reducible show wpAny _ _ (call (Value.ref 187) _) _ _ _); k_dflt (refine' c_oneU ?zqcx ?zqU ?zqd ?zqu ?zqy1 ?zqy2 ?zqm ?zqn ?zqi ?zql0 ?zql1 ?_; (case zqcx => walk_at "mine cx"); (case zqm => k_mem); (case zqn => walk_at "mine ne"); (case zqU => k_updF); (case zqd => walk_at "mine room"); (case zqu => walk_at "mine room"); (case zqy1 => assumption); (case zqy2 => assumption); (case zqi => walk_at "mine ints"); (case zql0 => first | assumption | exact Nat.le_of_ble_eq_true rfl); (case zql1 => first | assumption | exact Nat.le_of_ble_eq_true rfl)); intro d' u' h' tk' x' y' tx' ty' k' hm' hy0' hy1' F' N'; (try dsimp only at N'); (try dsimp only))
  k_with "setItem ref int" => (k_here; (with_reducible show wpAny _ _ (setItem (Value.ref _) (Value.int _ _) (Value.ref _)) _ _ _); k_dflt (refine' kda_set (knd := PySem.intKind _ _) ?zqF ?zqN ?zqU ?zqd (intKind_is _ _ _ _) ?zqz ?_; (case zqF => k_asm); (case zqN => k_asm); (case zqU => k_updF); (case zqd => assumption); (case zqz => assumption)); intro h' o' F' N' hd'; (try dsimp only at N'); have hd2' := val_snoc_is hd' (by assumption); clear hd'; obtain ⟨hd', hv'⟩ := hd2')
  k_with "subscriptTail" => (k_here; k_dflt (refine kda_item (knd := PySem.intKind _ _) (by k_asm) (by k_mem) (by assumption) (intKind_is _ _ _ _) (by with_reducible assumption) ?_))
  k_with "call ref" => (k_here; (with_reducible show wpAny _ _ (call (Value.ref 98) _) _ _ _); k_dflt (refine' c_set_hostU ?zqcx ?zqU ?zqd ?zqu ?zqp ?zqK ?zqM ?zqn1 ?zqn2 ?zql ?zqdH ?zqfH ?zqz _ _ _ _ ?zqe1 ?zqe2 ?zqe3 ?_; (case zqcx => walk_at "mine cx"); (case zqp => walk_at "mine priv"); (case zqU => k_updF); (case zqd => walk_at "mine room"); (case zqu => walk_at "mine room"); (case zqK => walk_at "mine dict"); (case zqM => walk_at "mine dict"); (case zqn1 => walk_at "mine ne"); (case zqn2 => walk_at "mine ne"); (case zql => assumption); (case zqdH => assumption); (case zqfH => assumption); (case zqz => walk_at "mine few"); (case zqe1 => assumption); (case zqe2 => assumption); (case zqe3 => exact f_hosts _ (by assumption) _ (by assumption) _ (by assumption))); intro h' tk' oH' kvsH' F' N' dH' fH'; (try dsimp only at N'))
  k_with "call ref" => (k_here; (with_reducible show wpAny _ _ (call (Value.ref 105) _) _ _ _); k_dflt (refine' c_set_promU ?zqcx ?zqU ?zqd ?zqu ?zqp ?zqK ?zqH ?zqn1 ?zqn2 ?zql ?zqdM ?zqfM ?zqz _ _ _ _ ?zqe1 ?zqe2 ?zqe3 ?_; (case zqcx => walk_at "mine cx"); (case zqp => walk_at "mine priv"); (case zqU => k_updF); (case zqd => walk_at "mine room"); (case zqu => walk_at "mine room"); (case zqK => walk_at "mine dict"); (case zqH => walk_at "mine dict"); (case zqn1 => walk_at "mine ne"); (case zqn2 => walk_at "mine ne"); (case zql => assumption); (case zqdM => assumption); (case zqfM => assumption); (case zqz => walk_at "mine few"); (case zqe1 => assumption); (case zqe2 => assumption); (case zqe3 => exact f_proms _ (by assumption) _ (by assumption) _ (by assumption))); intro h' tk' oM' kvsM' F' N' dM' fM'; (try dsimp only at N'))
  k_with "mine take" => (refine take_in (by k_mem) (take_in (by k_mem) (take_in (by k_mem) (take_in (by k_mem) (take_in (by k_mem) (take_in (by k_mem) ?_))))); walk_at "mine sub")
  k_with "call ref" => (k_here; (with_reducible show wpAny _ _ (call (Value.ref 256) _) _ _ _); k_dflt (refine' c_told_first ?zqcx ?zqd ?zqu ?_; (case zqcx => walk_at "mine cx"); (case zqd => walk_at "mine room"); (case zqu => walk_at "mine room")); intro r' h' tk' F' N' hr'; subst hr'; (try dsimp only))
  k_with "call ref" => (k_here; (with_reducible show wpAny _ _ (call (Value.ref 173) _) _ _ _); refine Held.out ?_)
  k_with "call ref" => (k_here; (with_reducible show wpAny _ _ (call (Value.ref 201) _) _ _ _); refine Held.out ?_)
  k_with "call ref" => (k_here; (with_reducible show wpAny _ _ (call (Value.ref 206) _) _ _ _); refine Held.out ?_)
  k_with "call ref" => (k_here; (with_reducible show wpAny _ _ (call (Value.ref 249) _) _ _ _); refine Held.out ?_)
  k_with "call ref" => (k_here; (with_reducible show wpAny _ _ (call (Value.ref 244) _) _ _ _); refine Held.out ?_)
  k_with "call type:range" => (k_here; (rename Fr _ _ _ _ => F'); (rename News _ _ _ _ => N'); (with_unfolding_all refine range1_rows F' N' ?_); intro h' tk' t1' u1' v1' rg' F' N' kp')
  k_with "eval ListComp" => (k_here; (with_reducible show wpAny _ _ (eval (Expr.ListComp (Expr.Name _ _) [_, _] _ _) _) _ _ _); k_dflt (refine comp_start (F₀ := by k_asm) (by with_unfolding_all rfl) (by decide) (by rfl) (by decide) ?_ (fun _ => rfl)))
  k_with "eval ListComp" => (k_here; lct_look; k_dflt (refine LCt.ListComp_T (F₀ := by k_asm) (by with_unfolding_all rfl) (by decide) (by rfl) (by decide) (by rfl) ?_))
  k_with "eval ListComp" => (k_here; (with_reducible show wpAny _ _ (eval (Expr.ListComp (Expr.Name _ _) [⟨Expr.Tuple [Expr.Name _ _, Expr.Name _ _] _ _, _, [], 0⟩] _ _) _) _ _ _); k_dflt (refine list_rows (F₀ := by k_asm) (by with_unfolding_all rfl) (by decide) (by rfl) (by decide) (by rfl) (by rfl) (by decide) (by decide) ?_))
  k_with "RowsSrc" => (k_here; k_dflt (refine RowsSrc.intro (by rfl) (by k_asm) (by k_asm) (RowsAt.mono (by assumption) (by walk_at "mine sub")) (by assumption) ?_); intro D' ys' hi' off' h' tk' F' N')
  k_with "binaryOp Add ref ref" => (k_here; (with_reducible show wpAny _ _ (binaryOp _ (Value.ref _) (Value.ref _)) _ _ _); k_dflt (refine' kmk_add_ints ?zqF ?zqN ?zqa ?zqb ?zqi ?zqj ?_ ?zqz; (case zqF => k_asm); (case zqN => k_asm); (case zqa => kmk_list); (case zqb => exact ⟨_, (News.get (by k_asm) (by k_mem)), rfl, _, rfl⟩); (case zqi => l_ints); (case zqj => assumption); (case zqz => assumption)); intro D' ws' h' F' N' l1 hI'; (try k_lt l1))
  k_with "CompRestT" => (with_unfolding_all fail)
  k_with "CompEnd" => (k_here; refine LCg.CompEnd.intro (by k_asm) (by k_asm) _ (by walk_at "mine sub") (by assumption) (by lcg_src) ?_)
  k_with "mine sub3" => (refine take_in (.head _) (take_in (by k_mem) (take_in (by k_mem) (take_in (by k_mem) ?_))); walk_at "mine sub")
  k_with "mine sub4" => (first | (with_reducible assumption) | (refine sub_o ?_; walk_at "mine sub4"))
  trivial
theorem perm5 {h₀ h : Heap} {L : Addr} {a b p3 p2 p1 : Addr × Obj} (N : News h₀ L h [a, p3, p2, p1, b]) : News h₀ L h [a, b, p3, p2, p1] := fun q hq => N q (by
  simp only [List.mem_cons] at hq ⊢
  rcases hq with h | h | h | h | h | h <;> simp only [h, true_or, or_true])
theorem cells_in {h₀ h : Heap} {L : Addr} {a b p3 p2 p1 : Addr × Obj} {l Z : List (Addr × Obj)} (N : News h₀ L h (a :: b :: l)) (m3 : p3 ∈ l) (m2 : p2 ∈ l) (m1 : p1 ∈ l) (zs : ∀ q ∈ Z, q ∈ l) : News h₀ L h (a :: b :: p3 :: p2 :: p1 :: Z) := fun q hq => N q (by
  simp only [List.mem_cons] at hq ⊢
  rcases hq with h | h | h | h | h | h
  · exact .inl h
  · exact .inr (.inl h)
  · exact .inr (.inr (h ▸ m3))
  · exact .inr (.inr (h ▸ m2))
  · exact .inr (.inr (h ▸ m1))
  · exact .inr (.inr (zs q h)))
theorem off_cells {A : List (Addr × Obj)} {D a b c : Nat} {oa ob oc : Obj} (h1 : a ≠ D) (h2 : b ≠ D) (h3 : c ≠ D) (h : ∀ q ∈ A, @Ne Nat q.1 D) : ∀ q ∈ (a, oa) :: (b, ob) :: (c, oc) :: A, @Ne Nat q.1 D := off_3 h1 h2 h3 h
theorem ne_of_nat {a b : Nat} (h : a ≠ b) : a ≠ b := h
theorem turn_open {h₀ h : Heap} {L sd c1 c2 c3 : Addr} {os o1 o2 o3 ot : Obj} {Y : List (Addr × Obj)} (N : News h₀ L h ((sd, os) :: (246, ot) :: (c3, o3) :: (c2, o2) :: (c1, o1) :: Y)) (yd : ∀ q ∈ Y, @Ne Nat q.1 sd) (yt : ∀ q ∈ Y, @Ne Nat q.1 246)
    (n3 : @Ne Nat c3 sd) (n2 : @Ne Nat c2 sd) (n1 : @Ne Nat c1 sd) (k3 : @Ne Nat c3 246) (k2 : @Ne Nat c2 246) (k1 : @Ne Nat c1 246) :
    ∃ V, News h₀ L h ((246, ot) :: (sd, os) :: V) ∧ (∀ q ∈ Y, q ∈ V) ∧ (∀ q ∈ V, @Ne Nat q.1 sd) ∧ (∀ q ∈ V, @Ne Nat q.1 246) ∧ (c3, o3) ∈ V ∧ (c2, o2) ∈ V ∧ (c1, o1) ∈ V :=
  ⟨(c3, o3) :: (c2, o2) :: (c1, o1) :: Y, fun q hq => N q (by
    simp only [List.mem_cons] at hq ⊢
    rcases hq with h | h | h | h | h | h <;> simp only [h, true_or, or_true]), fun q hq => .tail _ (.tail _ (.tail _ hq)), off_3 n3 n2 n1 yd, off_3 k3 k2 k1 yt, .head _, .tail _ (.head _), .tail _ (.tail _ (.head _))⟩
def JTurn (sd : Addr) (V : List (Addr × Obj)) (i : Nat) (nx : List (Addr × Obj)) : Prop :=
  ∃ ps x y tx ty k W, 0 ≤ y ∧ y < 2147483647 ∧ nx = (246, tabObj ps) :: (sd, srcOf x y tx ty k) :: W ∧ TabOk W ps ∧ (∀ q ∈ V, q ∈ W) ∧ (∀ q ∈ W, @Ne Nat q.1 246) ∧ (∀ q ∈ W, @Ne Nat q.1 sd)
structure Box (p : Prop) : Prop where
  out : p
theorem topLO {mean : ExcName → Option Value} {mg mb : Str → Option Value} {h : Heap} {l : List Str} (e : l = LO) (T : Top topProg l mean mg mb h) : Top topProg LO mean mg mb h := e ▸ T
theorem law : PySem.Challenge.rw_pb0538_01.Holds := hd (by
  k_go0
  (all_goals try k_fold)
  rename CellsAre _ _ _ => X0
  clear X0
  rename _ = Data.cell _ => e3
  have q3 : Box (_ = Data.cell none) := ⟨e3⟩
  clear e3
  rename _ = Data.cell _ => e2
  have q2 : Box (_ = Data.cell none) := ⟨e2⟩
  clear e2
  rename _ = Data.cell _ => e1
  have q1 : Box (_ = Data.cell none) := ⟨e1⟩
  clear e1
  rename Top topProg _ _ _ _ _ => TT
  rename (_root_.Mine.hd.heap_1 _).In _ => XX
  rename Below _ _ _ _ => BB
  rename CodeHd _ _ _ => CH
  rename IntsAre _ _ => hI
  rename Heap.IsList _ _ _ => hLs
  rename Fr _ _ _ _ => FF
  rename News _ _ _ _ => NN
  rename Heap.CodeRec _ _ _ => zz1
  clear zz1
  have TB := topLO (by with_unfolding_all rfl) TT
  clear TT
  have j1 := q1.out
  have j2 := q2.out
  have j3 := q3.out
  clear q1 q2 q3
  k_steps
  refine Held.of ?_
  rename Fr _ _ _ _ => FA0
  rename News _ _ _ _ => NA0
  clear NN FF
  k_dflt (refine' c_pool ?cx ?d ?u ?hl ?hi ?hn _ ?_; (case cx => walk_at "mine cx"); (case d => walk_at "mine room"); (case u => walk_at "mine room"); (case hl => assumption); (case hi => assumption); (case hn => omega))
  intro sd hA tA x y tx ty kk y0 y1 FA NA nA
  try clear NA0
  try clear FA0
  obtain ⟨nA3, nA⟩ := List.forall_mem_cons.mp nA
  obtain ⟨nA2, nA⟩ := List.forall_mem_cons.mp nA
  obtain ⟨nA1, nA⟩ := List.forall_mem_cons.mp nA
  obtain ⟨nA0, -⟩ := List.forall_mem_cons.mp nA
  clear nA
  dsimp only at nA0 nA1 nA2 nA3
  k_steps
  refine Held.of ?_
  rename News _ _ _ _ => NQ
  have NQ2 := perm5 NQ
  clear NQ
  k_dflt (refine' c_families ?cx ?d ?u ?nc ?ne ?ne2 ?y0 ?y1 ?_; (case cx => walk_at "mine cx"); (case d => walk_at "mine room"); (case u => walk_at "mine room"); (case nc => exact nA0); (case ne => exact List.forall_mem_cons.mpr ⟨nA3, List.forall_mem_cons.mpr ⟨nA2, List.forall_mem_cons.mpr ⟨nA1, fun _ h => absurd h List.not_mem_nil⟩⟩⟩); (case ne2 => exact List.forall_mem_cons.mpr ⟨by k_ne, List.forall_mem_cons.mpr ⟨by k_ne, List.forall_mem_cons.mpr ⟨by k_ne, fun _ h => absurd h List.not_mem_nil⟩⟩⟩); (case y0 => assumption); (case y1 => assumption))
  try clear y0 y1
  intro f hB tB x y tx ty kk rest1 R1 R2 y0 y1 hR1 hR2 FB NB fm of1 of2 sub1
  try clear NQ2
  try clear NA
  try clear FA
  have c3 := sub1 _ (.head _)
  have c2 := sub1 _ (.tail _ (.head _))
  have c1 := sub1 _ (.tail _ (.tail _ (.head _)))
  have gB : ∀ q ∈ rest1, hB.get? q.1 = some q.2 := fun q hq => (NB q (.tail _ (.tail _ hq))).1
  obtain ⟨Z, nz, zs, z1, z2, z3⟩ := cells_out gB (gB _ c1) (gB _ c2) (gB _ c3) j3 j2 j1
  have NB2 := cells_in NB c3 c2 c1 zs
  have fmZ := fm.nc nz
  have zd : ∀ q ∈ Z, @Ne Nat q.1 sd := fun q hq => of1 q (zs q hq)
  have zt : ∀ q ∈ Z, @Ne Nat q.1 246 := fun q hq => of2 q (zs q hq)
  clear NB fm of1 of2 sub1 c3 c2 c1 gB nz zs
  k_steps
  refine Held.of ?_
  rename _ = Data.cell (some _) => j1n
  k_dflt (refine' c_built ?cx ?d ?u ?nc ?ne ?ne2 ?y0 ?y1 ?fm ?h1 ?h2 ?_; (case cx => walk_at "mine cx"); (case d => walk_at "mine room"); (case u => walk_at "mine room"); (case nc => exact nA0); (case ne => exact off_cells nA3 nA2 nA1 zd); (case ne2 => exact off_cells (by k_ne) (by k_ne) (by k_ne) zt); (case y0 => assumption); (case y1 => assumption); (case fm => exact fmZ.mono fun _ h => .tail _ (.tail _ (.tail _ h))); (case h1 => exact hR1); (case h2 => exact hR2))
  try clear y0 y1
  intro t P tb kd pd od md hC tC x y tx ty kk rest2 PT y0 y1 FC NCn mt sub2 pv kK kP kH kM pT nd l60 good of1 of2
  try clear NB2
  try clear FB
  have c3 := sub2 _ (.head _)
  have c2 := sub2 _ (.tail _ (.head _))
  have c1 := sub2 _ (.tail _ (.tail _ (.head _)))
  have gB : ∀ q ∈ rest2, hC.get? q.1 = some q.2 := fun q hq => (NCn q (.tail _ (.tail _ hq))).1
  obtain ⟨Y, ny, ys, u1, u2, u3⟩ := cells_out gB (gB _ c1) (gB _ c2) (gB _ c3) j1n j2 j1
  have NC2 := cells_in NCn c3 c2 c1 ys
  have zY : ∀ q ∈ Z, q ∈ rest2 := fun q hq => sub2 q (.tail _ (.tail _ (.tail _ hq)))
  have fmY := (fmZ.mono zY).nc ny
  have pvY := pv.nc ny
  have kKY := kK.nc ny
  have kPY := kP.nc ny
  have kHY := kH.nc ny
  have kMY := kM.nc ny
  have pTY := pT.nc ny
  have mtY := ny _ mt fun v e => by cases e
  have yd : ∀ q ∈ Y, @Ne Nat q.1 sd := fun q hq => of1 q (ys q hq)
  have yt : ∀ q ∈ Y, @Ne Nat q.1 246 := fun q hq => of2 q (ys q hq)
  clear NCn fmZ pv kK kP kH kM pT mt sub2 c3 c2 c1 gB ny ys of1 of2 zY z1 z2 z3 zd zt
  k_steps
  refine Held.of ?_
  rename IsRange _ _ _ _ _ _ _ _ => rg
  rename Fr _ _ _ _ => FP
  rename News _ _ _ _ => NP
  obtain ⟨V, NV, sV, vd, vt, m3, m2, m1⟩ := turn_open NP yd yt (ne_of_nat nA3) (ne_of_nat nA2) (ne_of_nat nA1) (by k_ne) (by k_ne) (by k_ne)
  refine krs_iter (by rfl) rg (small_one (by omega) (by omega) (by omega) (by omega)) (rangeSize_nat _ _) FP NV ?_
  intro I lI
  refine krs_inv ["turn"] _ (by rfl) (JTurn sd V) ?step ?done _ 0 _ _ (Nat.zero_add _) ⟨#[], _, _, _, _, _, V, by assumption, by assumption, rfl, TabOk.nil, fun _ h => h, vt, vd⟩ (fun _ _ => rfl)
  case step =>
    intro i nx u h tk x' l' hin hJ F' N'
    obtain ⟨ps, x, y, tx, ty, kk, W, y0, y1, rfl, tab, sVW, wt, wd⟩ := hJ
    have N2 := perm3 N'
    clear N' NP NV FP
    have M3 := sVW _ m3
    have M2 := sVW _ m2
    have M1 := sVW _ m1
    have sYW : ∀ q ∈ Y, q ∈ W := fun q hq => sVW q (sV q hq)
    k_steps
    refine Held.of ?_
    have i46 : @Ne Nat I 246 := Nat.ne_of_gt (lI _ (.head _))
    have isd : @Ne Nat I sd := Nat.ne_of_gt (lI _ (.tail _ (.head _)))
    have sR : ∀ q ∈ Y, q ∈ (I, krsIt x' l' 1) :: W := fun q hq => .tail _ (sYW q hq)
    k_dflt (refine' c_refusal_right (PT := PT) ?cx XX TB CH ?d ?u ?y0 ?y1 ?n46 ?o46 ?osd ?tab ?hp ?hK ?hP ?hH ?hM ?hT nd ?hz l60 ?own ?r0 ?r1 ?r3 ?k1 ?k2 ?k3 ?k4 ?k5 ?k6 ?_)
    case cx => walk_at "mine cx"
    case d => walk_at "mine room"
    case u => walk_at "mine room"
    case y0 => assumption
    case y1 => assumption
    case n46 => exact nA0
    case o46 => exact List.forall_mem_cons.mpr ⟨i46, wt⟩
    case osd => exact List.forall_mem_cons.mpr ⟨isd, wd⟩
    case tab => exact tab.mono fun _ h => .tail _ h
    case hp => exact pvY.mono sR
    case hK => exact kKY.mono sR
    case hP => exact kPY.mono sR
    case hH => exact kHY.mono sR
    case hM => exact kMY.mono sR
    case hT => exact pTY.mono sR
    case hz => exact (f_len R1 hR1 R2 hR2).1
    case own => exact f_own' hR1 hR2
    case r0 => exact f_r0' hR1 hR2
    case r1 => exact f_r1 R1 hR1 R2 hR2
    case r3 => exact (f_r3 R1 hR1 R2 hR2).2.1
    case k1 => exact f_k1 hR1 hR2
    case k2 => exact f_k2 hR1 hR2
    case k3 => exact f_k3 hR1 hR2
    case k4 => exact f_k4 hR1 hR2
    case k5 => exact f_k5 hR1 hR2
    case k6 => exact f_k6 nd
    intro hE tE ps' x9 y9 tx9 ty9 kk9 rest9 FE NE sub9 tab9 o46 osd y09 y19
    k_steps
    have gE : ∀ q ∈ rest9, hE.get? q.1 = some q.2 := fun q hq => (NE q (.tail _ (.tail _ hq))).1
    refine UnrEnd.intro (by k_asm) NE ((246, tabObj ps') :: (sd, srcOf x9 y9 tx9 ty9 kk9) :: offs I rest9) (take_in (.tail _ (.tail _ (sub9 _ (.head _)))) (take_in (.head _) (take_in (.tail _ (.head _)) fun q hq => .tail _ (.tail _ (offs_mem.mp hq).1)))) (List.forall_mem_cons.mpr ⟨Ne.symm i46, List.forall_mem_cons.mpr ⟨Ne.symm isd, fun q hq => (offs_mem.mp hq).2⟩⟩) ⟨⟨ps', x9, y9, tx9, ty9, kk9, offs I rest9, y09, y19, rfl, tab9.offs gE (gE _ (sub9 _ (.head _))), fun q hq => offs_mem.mpr ⟨sub9 q (.tail _ (sVW q hq)), Nat.ne_of_lt (lI q (.tail _ (.tail _ hq)))⟩, fun q hq => o46 q (offs_mem.mp hq).1, fun q hq => osd q (offs_mem.mp hq).1⟩, ?_⟩
    intro z9 hz9
    simp only [hz9, Bool.false_eq_true, if_false]
  case done =>
    intro nx u h tk hJ F' N'
    obtain ⟨ps, x, y, tx, ty, kk, W, y0, y1, rfl, tab, sVW, wt, wd⟩ := hJ
    clear NP NV FP
    have M3 := sVW _ m3
    have M2 := sVW _ m2
    have M1 := sVW _ m1
    have sYW : ∀ q ∈ Y, q ∈ W := fun q hq => sVW q (sV q hq)
    have fl := f_len R1 hR1 R2 hR2
    have s1 : [(100 : Int)].length + (R1.map Prod.fst).length ≤ sizeLine := by rw [sizeLine_eq, List.length_map]; show 1 + _ ≤ _; omega
    have s2 : [(200 : Int)].length + (R2.map Prod.fst).length ≤ sizeLine := by rw [sizeLine_eq, List.length_map]; show 1 + _ ≤ _; omega
    have l1 : ([(100 : Int)] ++ R1.map Prod.fst).length ≤ 20 := by rw [List.length_append, List.length_map]; show 1 + _ ≤ _; omega
    have l2 : ([(200 : Int)] ++ R2.map Prod.fst).length ≤ 20 := by rw [List.length_append, List.length_map]; show 1 + _ ≤ _; omega
    have s3 : [(50 : Int)].length + (([(100 : Int)] ++ R1.map Prod.fst) ++ ([(200 : Int)] ++ R2.map Prod.fst)).length ≤ sizeLine := by rw [sizeLine_eq, List.length_append]; show 1 + _ ≤ _; omega
    have z1' : R1.length ≤ 100 := by omega
    have z2' : R2.length ≤ 100 := by omega
    have fmW := fmY.mono sYW
    obtain ⟨nf, a1, a2, r1, r2, tf1, tf2, mf, ma1, ma2, q1, q2⟩ := id fmW
    k_steps
    k_dflt (refine' fam_vlans ?hh (by rfl) (by rfl) (by rfl) (by rfl) (by decide) (by decide) (fun _ _ => rfl) ?F ?N ?m1 ?m2 ?m3 l1 l2 ?T1 ?T2 ?K)
    case hh => rfl
    case F => k_asm
    case N => k_asm
    case m1 => k_mem
    case m2 => k_mem
    case m3 => k_mem
    case T1 =>
      intro I' oI' C' oC' D' ys' mc' h' tk' Q' E' hC' hx' hy' F' N' off' ne' hQ'
      have qR : RowsAt W r1 R1 := q1
      k_steps
      exact hQ' _ _ _ _ _ (by assumption) (by k_asm) (newsSub (by k_asm) (by walk_at "mine sub3")) ⟨by k_ne, by k_ne, by k_ne⟩
    case T2 =>
      intro I' oI' C' oC' D' ys' mc' h' tk' Q' E' hC' hx' hy' F' N' off' ne' hQ'
      have qR : RowsAt W r2 R2 := q2
      k_steps
      exact hQ' _ _ _ _ _ (by assumption) (by k_asm) (newsSub (by k_asm) (by walk_at "mine sub3")) ⟨by k_ne, by k_ne, by k_ne⟩
    case K =>
      intro D' ys' hi' off' h' tk' F' N'
      k_steps
      rename IntsAre _ _ => hV
      have hVl := hV.length
      have hVz : (([(50 : Int)] ++ (([(100 : Int)] ++ R1.map Prod.fst) ++ ([(200 : Int)] ++ R2.map Prod.fst)))).length ≤ 60 := by rw [List.length_append, List.length_append]; show 1 + _ ≤ _; omega
      k_dflt (refine LCt.CompSrcT.ledger (by rfl) (by k_asm) (by k_asm) (by k_mem) (by rw [List.size_toArray, sizeLine_eq]; omega) ?_)
      intro g9
      refine restT_all _ (fun i ys => ys = []) ?_ ?_ [] rfl
      · intro ys hys
        subst hys
        k_steps
      · intro i ys v hi hys pv I' oI' C' oC' D' m' h' tk' E' hC' hx' F' N' off' ne'
        subst hys
        obtain ⟨v, t, hv, rfl⟩ := ints_at hV (by simpa using pv)
        have hvm : v ∈ vlansOf R1 R2 := List.mem_of_getElem? hv
        k_steps
        refine Held.of ?_
        k_dflt (refine' c_vlan_right ?cx ?d ?u ?fm hR1 hR2 ?z1 ?z2 ?hp ?hK ?hP ?hH ?hM ?hT nd ?hz ?own ?kp ?ok4 _ _ ?ok ?_)
        case cx => walk_at "mine cx"
        case d => walk_at "mine room"
        case u => walk_at "mine room"
        case fm => exact fmW.mono (by walk_at "mine sub")
        case z1 => exact fl.2.1
        case z2 => exact fl.2.2.1
        case hp => exact pvY.mono (by walk_at "mine sub4")
        case hK => exact kKY.mono (by walk_at "mine sub4")
        case hP => exact kPY.mono (by walk_at "mine sub4")
        case hH => exact kHY.mono (by walk_at "mine sub4")
        case hM => exact kMY.mono (by walk_at "mine sub4")
        case hT => exact pTY.mono (by walk_at "mine sub4")
        case hz => exact fl.1
        case own => exact f_own' hR1 hR2
        case kp => exact f_kp hR1 hR2
        case ok4 => exact f_ok4 hR1 hR2 good
        case ok => exact f_vok hR1 hR2 nd good hvm
        intro r' h9 tk9 F9 N9 hr9
        subst hr9
        k_steps)
end Mine
theorem PySem.Challenge.cw_pb0538_01_holds : PySem.Challenge.rw_pb0538_01.Holds :=
  Mine.law
