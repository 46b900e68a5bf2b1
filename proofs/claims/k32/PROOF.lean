import PyProof.Rows.All
import Wide.All
import OpenK.AllK
import Wide.FinOn
import HandS.ForMost
import HandS.GenOver
import HandS.AnyAll
import PyProof.GenQ
import HandS.Codes
import HandS.Conv
import HandS.Star
import HandS.IsInst
import HandS.Gcd
import HandS.Deep
import HandS.Zip
import HandS.SortInts
import HandS.SortRule
import HandS.TupAny
import HandS.EndTab
import PySem.Challenge.RW_parksums_k32_whole_changes
import HandS.Walk
import KE.GoesMore
import PyProof.Draws
import PyProof.EnumMake
import HandS.Style
set_option Elab.async false
set_option linter.all false
set_option maxRecDepth 100000
set_option maxHeartbeats 8000000
namespace Gx
open PySem L2 GenW PyProof.Rows

section
variable {M : Model} {A : Around} {E : Value → Shared → Prop} {s : Shared}
theorem newFrame {sc : Scope} {gl : Addr} {clo : List (Str × Addr)} {it code : Value} {q : Str} {bi : Addr} {Q : Env → Shared → Prop}
    (hk : sc.kind = .function) (h0 : sc.names.lookup (".0" : Str) = some .local)
    (h : ∀ h' tk, h'.Ns s.heap.objs.size (fun y => if y = (".0" : Str) then some it else none) →
      Heap.SameBut s.heap.objs.size (pushCells (s.heap.push { cls := .type "frame", data := .dict #[] }) sc.names) h' →
      Q (newEnv sc s.heap.objs.size gl (cellsFrom (s.heap.objs.size + 1) sc.names clo) q none code none bi) { s with heap := h', toks := tk }) :
    wpAny M A (newFunctionEnv sc gl clo [(".0", it)] q none code none bi) Q E s := by
  simp only [newFunctionEnv, Option.isSome_none, Bool.false_eq_true, if_false]
  refine wpAny_bind (wpAny_alloc ?_)
  refine wpAny_bind (wpAny_layCells _ (fun a b c => by cases hkc : b == NameKind.cell <;> simp [hkc]) _ _ _ _ ?_)
  have hz : ({ s with heap := s.heap.push { cls := .type "frame", data := .dict #[] } } : Shared).heap.objs.size = s.heap.objs.size + 1 := Heap.size_push ..
  rw [hz, List.forIn_cons]
  have hns : (pushCells (s.heap.push { cls := .type "frame", data := .dict #[] }) sc.names).Ns s.heap.objs.size (fun _ => none) :=
    (Heap.Ns.new s.heap (.type "frame")).keeps (pushCells_keeps _ _)
  refine wpAny_bind (wpAny_bind (wpAny_bind (wpAny_storeName_local (m := fun _ => none) h0 hns (fun h' n' sb => ?_) (by show (sc.kind == _ || _) = _; rw [hk]; rfl))))
  refine wpAny_pure ?_
  dsimp only
  rw [List.forIn_nil]
  exact wpAny_pure (wpAny_pure (h h' _ n' sb))
end
end Gx
namespace Gx
open PySem L2 GenW PyProof.Rows

/-- the frame of a generator expression made at s -/
def genv (X : Cx) (s : Shared) (sc : Scope) (q : Str) (code : Value) : Env :=
  newEnv sc s.heap.objs.size X.env.globals (cellsFrom (s.heap.objs.size + 1) sc.names (cloFrom X.env.cells sc.names [])) q none code none builtinsNs
/-- its context, one for all its turns -/
abbrev gcx (X : Cx) (A' : Around) (s : Shared) (H : Hp) (sc : Scope) (ce : Env) (fp : List Addr) : Cx :=
  { X with A := A', s_0 := s, H_0 := H, env := ce, outer := X.stack, stack := ce :: X.stack, ex := fp, fn := fun x => sc.names.lookup x == some .cell, pn := [], xe := fun _ _ => False }

section
variable {X : Cx} {pins : List (Addr × Obj)} {σ : L2.St} {H : Hp} {s : Shared} {sc : Scope} {own : List (Str × Nat)} {fp : List Addr} {q : Str} {code : Value}

theorem free_cell (I : Inv X pins σ H s) (ok : BlkOk X.N X.env.scope sc own) {y : Str × NameKind} (hy : y ∈ sc.names) (e : y.2 = .free) : ∃ c, X.env.cells.lookup y.1 = some c :=
  (ok.free y hy e).elim (fun k => I.ok.has y.1 (.inl k)) (fun k => I.ok.has y.1 (.inr k))
/-- a captured cell -/
theorem cap_of (I : Inv X pins σ H s) (ok : BlkOk X.N X.env.scope sc own) {y : Str} {c : Addr} (hm : (y, c) ∈ cloFrom X.env.cells sc.names []) : X.env.cells.lookup y = some c ∧ c < s.heap.objs.size := by
  rcases cloFrom_mem hm with z | ⟨z, rfl⟩
  · exact nomatch z
  · obtain ⟨c', e'⟩ := free_cell I ok z rfl
    simp only at e'
    rw [e']
    obtain ⟨v, k⟩ := I.cell y c' e'
    exact ⟨rfl, k.lt⟩
/-- a cell of the new frame: captured, or new and empty -/
theorem cell_kind (I : Inv X pins σ H s) (ok : BlkOk X.N X.env.scope sc own) {y : Str} {c : Addr} (e : (genv X s sc q code).cells.lookup y = some c) :
    (X.env.cells.lookup y = some c ∧ c < s.heap.objs.size ∧ (y, c) ∈ cloFrom X.env.cells sc.names []) ∨
    (s.heap.objs.size + 1 ≤ c ∧ CellAt (pushCells (s.heap.push { cls := .type "frame", data := .dict #[] }) sc.names) c none ∧ (y, NameKind.cell) ∈ sc.names) := by
  have e1 : (y, c) ∈ cellsFrom (s.heap.push { cls := .type "frame", data := .dict #[] }).objs.size sc.names (cloFrom X.env.cells sc.names []) := by
    rw [Heap.size_push]
    exact PySem.mem_of_lookup e
  rcases cells_mem e1 with z | ⟨z1, z2, z3⟩
  · exact .inl ⟨(cap_of I ok z).1, (cap_of I ok z).2, z⟩
  · rw [Heap.size_push] at z2
    exact .inr ⟨z2, z3, z1⟩
theorem free_look (I : Inv X pins σ H s) (ok : BlkOk X.N X.env.scope sc own) {y : Str} (hl : sc.names.lookup y = some .free) :
    ∃ c, (genv X s sc q code).cells.lookup y = some c ∧ X.env.cells.lookup y = some c := by
  have hy : (y, NameKind.free) ∈ sc.names := PySem.mem_of_lookup hl
  obtain ⟨c, hc⟩ := mem_lookup (cells_acc (names := sc.names) (n := s.heap.objs.size + 1) (cloFrom_has (cells := X.env.cells) (acc := []) hy))
  have hc' : (genv X s sc q code).cells.lookup y = some c := hc
  refine ⟨c, hc', ?_⟩
  rcases cell_kind I ok hc' with z | ⟨_, _, z⟩
  · exact z.1
  · have := ok.uniq _ z
    rw [hl] at this
    cases this
theorem cell_look {y : Str} (hl : sc.names.lookup y = some .cell) : ∃ c, (genv X s sc q code).cells.lookup y = some c := by
  obtain ⟨c, hm⟩ := cells_has (n := s.heap.objs.size + 1) (acc := cloFrom X.env.cells sc.names []) (PySem.mem_of_lookup hl)
  exact mem_lookup hm

theorem gen_start {A' : Around} {h' : Heap} {tk : Nat} {m : Str → Option Value} (I : Inv X pins σ H s) (ok : BlkOk X.N X.env.scope sc own) (hN : X.N.Nodup)
    (hfp : ∀ b ∈ fp, FpOk X pins H b ∧ b < s.heap.objs.size) (hA : A'.frames = some (genv X s sc q code :: X.stack)) (hh : A'.handled = none)
    (ns : h'.Ns s.heap.objs.size m) (sb : Heap.SameBut s.heap.objs.size (pushCells (s.heap.push { cls := .type "frame", data := .dict #[] }) sc.names) h') :
    Inv (gcx X A' s H sc (genv X s sc q code) fp) [] (wipe σ (own.map (·.2))) H { s with heap := h', toks := tk } := by
  have kp : ∀ b o, s.heap.get? b = some o → h'.get? b = some o := fun b o e =>
    (sb.2 b (Nat.ne_of_lt (Heap.lt_size e))).trans (pushCells_keeps _ _ _ _ (Heap.get?_push_of_some _ e))
  have cellH : ∀ {c v}, c ≠ s.heap.objs.size → CellAt (pushCells (s.heap.push { cls := .type "frame", data := .dict #[] }) sc.names) c v → CellAt h' c v :=
    fun hc z => z.sameBut sb hc
  have exs : ∀ b ∈ fp, b ∉ frs X.stack := fun b hb z => (List.mem_cons.mp (I.stkSub b z)).elim (hfp b hb).1.2.1 (hfp b hb).1.2.2.1
  have okG : (gcx X A' s H sc (genv X s sc q code) fp).Ok := by
    refine { mod := I.ok.mod, kind := ok.kind, glob := I.ok.glob, blt := rfl, above := Nat.le_refl _, inj := ?_, has := ?_, cab := ?_, hd := fun _ => hh, frames := hA,
             stk := .inr ⟨rfl, rfl⟩, exf := ?_, bs := I.bs, bsz := Nat.le_trans I.ok.bsz I.sz, noex := ?_, exfs := exs, funs := I.stack, frf := I.stkFree }
    · intro y z c h1 h2
      have h1' : (y, c) ∈ cellsFrom (s.heap.push { cls := .type "frame", data := .dict #[] }).objs.size sc.names (cloFrom X.env.cells sc.names []) := by
        rw [Heap.size_push]; exact PySem.mem_of_lookup h1
      have h2' : (z, c) ∈ cellsFrom (s.heap.push { cls := .type "frame", data := .dict #[] }).objs.size sc.names (cloFrom X.env.cells sc.names []) := by
        rw [Heap.size_push]; exact PySem.mem_of_lookup h2
      refine cells_inj (fun p hp => ?_) (fun a b d ha hb => I.ok.inj a b d (cap_of I ok ha).1 (cap_of I ok hb).1) h1' h2'
      rw [Heap.size_push]
      exact Nat.lt_succ_of_lt (cap_of (y := p.1) (c := p.2) I ok hp).2
    · intro y hy
      have hy' : sc.names.lookup y = some .cell ∨ sc.names.lookup y = some .free := hy
      rcases hy' with z | z
      · exact cell_look z
      · obtain ⟨c, hc, _⟩ := free_look (q := q) (code := code) I ok z
        exact ⟨c, hc⟩
    · intro y c hy hc
      have hy' : (sc.names.lookup y == some NameKind.cell) = true := hy
      have hy2 : sc.names.lookup y = some .cell := by simpa using hy'
      rcases cell_kind I ok hc with ⟨_, _, z⟩ | ⟨z, _, _⟩
      · rcases cloFrom_mem z with z | ⟨z, _⟩
        · exact nomatch z
        · have := ok.uniq _ z
          rw [hy2] at this
          cases this
      · exact Nat.le_of_succ_le z
    · intro b hb
      refine ⟨Nat.ne_of_lt (hfp b hb).2, fun y c hc z => ?_⟩
      rcases cell_kind I ok hc with ⟨k, _, _⟩ | ⟨k, _, _⟩
      · exact (hfp b hb).1.2.2.2.2.1 y c k z
      · have hlt := (hfp b hb).2
        rw [← z] at hlt
        exact absurd (Nat.lt_of_lt_of_le hlt (Nat.le_of_succ_le k)) (Nat.lt_irrefl _)
    · intro b o e hb
      rcases (hfp b hb).1.2.2.2.1 with z | z
      · exact I.ok.noex b o e z
      · exact absurd (Nat.lt_of_lt_of_le (Nat.lt_of_lt_of_le (Heap.lt_size e) I.ok.bsz) z) (Nat.lt_irrefl _)
  refine { ok := okG, os := rfl, bare := I.bare, base := Un.kept kp, loc := ⟨m, ns, ?_⟩, cell := ?_, free := I.hok.fresh (Nat.le_refl _), freeC := ?_, pin := ?_, hok := I.hok.kept kp, len := by rw [wipe_length]; exact I.len }
  · intro i y v h1 h2 h3
    obtain ⟨h2, hne⟩ := wipe_some h2
    have isFree : sc.names.lookup y = some .free := by
      have no : ∀ k, sc.names.lookup y = some k → ¬ (k = .local ∨ k = .cell) := fun k hk hh => by
        rcases ok.own _ (PySem.mem_of_lookup hk) hh with z | z
        · obtain ⟨p, hp, e⟩ := List.mem_map.mp z
          have e2 := ok.ix p hp
          simp only at e
          rw [e] at e2
          exact hne (List.mem_map.mpr ⟨p, hp, nodup_ix hN e2 h1⟩)
        · exact z (List.mem_of_getElem? h1)
      have h3' : Vis sc y := h3
      rcases h3' with z | z | z
      · exact absurd (.inl rfl) (no _ z)
      · exact absurd (.inr rfl) (no _ z)
      · exact z
    have hvis : Vis X.env.scope y := (ok.free _ (PySem.mem_of_lookup isFree) rfl).elim (fun k => .inr (.inl k)) (fun k => .inr (.inr k))
    obtain ⟨m0, hn0, hl0⟩ := I.loc
    obtain ⟨u, r, l⟩ := hl0 i y v h1 h2 hvis
    obtain ⟨c, hc1, hc2⟩ := free_look (q := q) (code := code) I ok isFree
    refine ⟨u, r, .inr ⟨.inr isFree, c, hc1, ?_⟩⟩
    rcases l with ⟨k, _⟩ | ⟨_, c', e', z⟩
    · have k' : X.env.scope.names.lookup y = some .local := k
      rcases ok.free _ (PySem.mem_of_lookup isFree) rfl with w | w
      · simp only at w
        rw [k'] at w
        cases w
      · simp only at w
        rw [k'] at w
        cases w
    · rw [hc2] at e'
      cases e'
      exact z.keeps kp
  · intro y c hc
    rcases cell_kind I ok hc with ⟨k, _, _⟩ | ⟨k, z, _⟩
    · obtain ⟨v, z⟩ := I.cell y c k
      exact ⟨v, z.keeps kp⟩
    · exact ⟨none, cellH (Nat.ne_of_gt k) z⟩
  · intro y c hc
    rcases cell_kind I ok hc with ⟨k, _, _⟩ | ⟨k, _, _⟩
    · exact I.freeC y c k
    · exact I.hok.fresh (Nat.le_of_succ_le k)
  · intro p hp
    exact absurd (show p ∈ ([] : List (Addr × Obj)) ++ [] from hp) (by simp)
end
end Gx
namespace Gx
open PySem L2 GenW PyProof.Rows

/-- nothing but the table of generators (and the count of tokens) has turned -/
structure Calm (s s' : Shared) : Prop where
  heap : s'.heap = s.heap
  os : s'.os = s.os
  bare : AllBare s'.gens
theorem calm_inv {X : Cx} {pins : List (Addr × Obj)} {σ : L2.St} {H : Hp} {s s' : Shared} (I : Inv X pins σ H s) (c : Calm s s') : Inv X pins σ H s' :=
  I.call' (ch := []) c.os (by rw [c.heap]; exact Un.refl) (by rw [c.heap]; exact I.hok) c.bare (fun b z => absurd z (by simp))
theorem bare_set {s : Shared} {g : Nat} {x : GenState} (h : AllBare s.gens) (hx : x.bare = true) : AllBare (s.setGen g x).gens := by
  intro y hy
  have hy' : y ∈ s.gens.setIfInBounds g x := hy
  rcases Array.mem_or_eq_of_mem_setIfInBounds hy' with z | z
  · exact h y z
  · rw [z]; exact hx

/-- all that a generator expression's turns lean on -/
structure GW (X : Cx) (elt : Expr) (x : Str) (px : Pos) (iter : Expr) (sc : Scope) (gpos : Pos) (j : Nat) (te : TE) (vs : List Nat) (σ : L2.St)
    (A1 : Around) (s2 : Shared) (H2 : Hp) (ce : Env) (fp : List Addr) (it : Addr) (tn : Nat → Heap → Prop) (J : It) (W : Nat → Nat → Hp → Prop) (Q : Bool → Hp → Prop) (sv : Bool) (a g : Nat) (go : Obj) : Prop where
  co : ce.scope.isCoroutine = false
  gen : go.cls = .type "generator" ∧ (∃ nm qn, go.data = .fields #[.int g 0, nm, qn]) ∧ go.slots = #[]
  turn : Turn X.prog X.w X.K (.Name x px) J fp it tn
  calm : X.calm = true
  pg : PG (gcx X (A1.over (.compLoop (.GeneratorExp elt [⟨.Name x px, iter, [], 0⟩] sc gpos) 0 (.ref it) .none ce) []) s2 H2 sc ce fp) (.Name x px) (gName j)
  pe : PE (gcx X (A1.over (.compLoop (.GeneratorExp elt [⟨.Name x px, iter, [], 0⟩] sc gpos) 0 (.ref it) .none ce) []) s2 H2 sc ce fp) elt te
  wip : ∀ y, wipe ((wipe σ vs).set j (some y)) vs = wipe σ vs
  step : ∀ i m H, W i m H → (J.stop i H ∧ Q (!sv) H) ∨ (J.go i H ∧ ∀ y H', J.yld i H y H' → te ((wipe σ vs).set j (some y)) H' fun z H3 => ∃ b, z = .bl b ∧
    ((b = sv → Q sv H3) ∧ (b ≠ sv → ∃ m', m' < m ∧ W (i + 1) m' H3)))

section
variable {X : Cx} {elt : Expr} {x : Str} {px : Pos} {iter : Expr} {sc : Scope} {gpos : Pos} {j : Nat} {te : TE} {vs : List Nat} {σ : L2.St}
    {A1 : Around} {s2 : Shared} {H2 : Hp} {ce : Env} {fp : List Addr} {it : Addr} {tn : Nat → Heap → Prop} {J : It} {W : Nat → Nat → Hp → Prop} {Q : Bool → Hp → Prop} {sv : Bool} {a g : Nat} {go : Obj}

/-- ahead of turn i -/
def AtT (X : Cx) (A' : Around) (s2 : Shared) (H2 : Hp) (sc : Scope) (ce : Env) (fp : List Addr) (a : Nat) (go : Obj) (τ : L2.St) (tn : Nat → Heap → Prop) (i : Nat) (H : Hp) (s : Shared) : Prop :=
  Inv (gcx X A' s2 H2 sc ce fp) [(a, go)] τ H s ∧ tn i s.heap ∧ (∀ b ∈ fp, H b = none) ∧ (∀ b ∈ fp, b ≠ a)
/-- a truth is handed out -/
def GProto (X : Cx) (A' : Around) (s2 : Shared) (H2 : Hp) (sc : Scope) (ce : Env) (fp : List Addr) (a : Nat) (go : Obj) (tn : Nat → Heap → Prop) (W : Nat → Nat → Hp → Prop) (Q : Bool → Hp → Prop) (sv : Bool) : Protocol := fun k _ v s kap =>
  ∃ b τ H, v = Value.bool b ∧ Inv (gcx X A' s2 H2 sc ce fp) [(a, go)] τ H s ∧ (∀ b ∈ fp, H b = none) ∧ (b = sv → Q sv H) ∧
    (b ≠ sv → (∃ i m, m < k ∧ W i m H ∧ tn i s.heap) ∧ ∀ s', Calm s s' → kap (.send .none) s')
def GStop (X : Cx) (A' : Around) (s2 : Shared) (H2 : Hp) (sc : Scope) (ce : Env) (fp : List Addr) (a : Nat) (go : Obj) (Q : Bool → Hp → Prop) (sv : Bool) : GenEnd := fun _ _ r s =>
  r = .ok .next ∧ ∃ τ H, Inv (gcx X A' s2 H2 sc ce fp) [(a, go)] τ H s ∧ (∀ b ∈ fp, H b = none) ∧ Q (!sv) H

theorem fp_ok {A' : Around} {τ : L2.St} {H : Hp} {s : Shared} {pins : List (Addr × Obj)} (I : Inv (gcx X A' s2 H2 sc ce fp) pins τ H s) (hn : ∀ b ∈ fp, H b = none) (hp : ∀ b ∈ fp, ∀ p ∈ pins, p.1 ≠ b) :
    ∀ b ∈ fp, FpOk (gcx X A' s2 H2 sc ce fp) pins H b := fun b hb =>
  ⟨hn b hb, (I.ok.exf b hb).1, I.ok.exfs b hb, .inl hb, fun y c e => (I.ok.exf b hb).2 y c e, fun p z => hp b hb p (by simpa using z)⟩

theorem seg_turn (G : GW X elt x px iter sc gpos j te vs σ A1 s2 H2 ce fp it tn J W Q sv a g go) : ∀ (n i m : Nat) (H : Hp) (s₀ s : Shared), m < n → W i m H →
    AtT X (A1.over (.compLoop (.GeneratorExp elt [⟨.Name x px, iter, [], 0⟩] sc gpos) 0 (.ref it) .none ce) []) s2 H2 sc ce fp a go (wipe σ vs) tn i H s →
    Seg (model X.prog X.w) A1 (GStop X (A1.over (.compLoop (.GeneratorExp elt [⟨.Name x px, iter, [], 0⟩] sc gpos) 0 (.ref it) .none ce) []) s2 H2 sc ce fp a go Q sv)
      (GProto X (A1.over (.compLoop (.GeneratorExp elt [⟨.Name x px, iter, [], 0⟩] sc gpos) 0 (.ref it) .none ce) []) s2 H2 sc ce fp a go tn W Q sv) n s₀
      (.compLoop (.GeneratorExp elt [⟨.Name x px, iter, [], 0⟩] sc gpos) 0 (.ref it) .none ce)
      ((model X.prog X.w).den (.compLoop (.GeneratorExp elt [⟨.Name x px, iter, [], 0⟩] sc gpos) 0 (.ref it) .none ce)) [] s := by
  obtain ⟨hco, hgen, T, hcalm, pg, pe, hw, step⟩ := G
  generalize hA' : A1.over (.compLoop (.GeneratorExp elt [⟨.Name x px, iter, [], 0⟩] sc gpos) 0 (.ref it) .none ce) [] = A' at pg pe ⊢
  intro n
  induction n with
  | zero => intro i m H s₀ s hm; exact absurd hm (Nat.not_lt_zero m)
  | succ k ih =>
    intro i m H s₀ s hm hW ⟨I, ht, hn, hna⟩
    show Seg _ A1 _ _ _ s₀ _ ((compTurn (.GeneratorExp elt [⟨.Name x px, iter, [], 0⟩] sc gpos) 0 (.ref it) .none ce).onRaise (leaving ce)) [] s
    rw [compTurn_gen, Sem.onRaise_eq_wrap]
    refine seg_bind_wrap (wpAny_standAt ?_)
    have apart : ∀ b ∈ fp, ∀ p ∈ [(a, go)], p.1 ≠ b := fun b hb p hp => by rw [List.mem_singleton.mp hp]; exact (hna b hb).symm
    have fo := fp_ok I hn apart
    rcases step i m H hW with ⟨st, q⟩ | ⟨gg, f⟩
    · refine seg_bind_wrap ?_
      rw [hA']
      refine thnF (T.done (gcx X A' s2 H2 sc ce fp) rfl rfl rfl hcalm i [(a, go)] s _ H (fun _ _ => False) I fo ht st) fun r s1 hr => ?_
      obtain ⟨rfl, I1⟩ := hr
      exact seg_end (.ok .next) ⟨rfl, _, H, I1, hn, q⟩
    · refine seg_bind_wrap ?_
      rw [hA']
      refine thnF (T.item (gcx X A' s2 H2 sc ce fp) rfl rfl rfl hcalm i [(a, go)] s _ H (fun _ _ => False) I fo ht gg) fun r s1 ⟨u, hr, h1⟩ => ?_
      subst hr
      refine seg_bind_wrap ?_
      rw [hA']
      refine thnF h1 fun _ s3 ⟨y, H3, I3, r3, y3, t3, n3⟩ => ?_
      have I3' := I3.pinned (fp_ok I3 n3 apart) (T.obj _ _ t3)
      refine seg_bind_wrap ?_
      rw [hA']
      refine thnF (pg.run _ s3 _ H3 y u (fun σ' H' => σ' = (wipe σ vs).set j (some y) ∧ H' = H3) I3' r3 ⟨rfl, rfl⟩) fun _ s4 ⟨σ4, H4, I4, e4, e5⟩ => ?_
      subst e4 e5
      refine seg_bind_wrap (wpAny_tests_nil ?_)
      simp only [if_true]
      have hy : ∀ v, yieldOut ce v = yieldValue v := fun v => by simp only [yieldOut, hco, Bool.false_eq_true, if_false]
      simp only [hy]
      rw [Sem.bind_eq_wrap', Sem.bind_eq_wrap', Sem.wrap_wrap, Sem.wrap_wrap]
      refine seg_wrap ?_
      rw [hA']
      refine thnF (pe.run _ s4 _ H4 _ I4 (f y H4 y3)) fun v s5 ⟨z, H5, I5, r5, b, ez, q1, q2⟩ => ?_
      subst ez
      have ev : v = Value.bool b := r5
      subst ev
      have pin' : ∀ c ∈ fp, ∀ o, s3.heap.get? c = some o → s5.heap.get? c = some o ∧ H5 c = none := fun c hc o e =>
        let w := I5.pin (c, o) (List.mem_append_right _ (List.mem_append_right _ (mem_pinsAt hc e)))
        ⟨w.1, w.2.1⟩
      have n5 : ∀ c ∈ fp, H5 c = none := fun c hc => by
        obtain ⟨o, e, _⟩ := T.obj _ _ t3 c hc
        exact (pin' c hc o e).2
      have t5 : tn (i + 1) s5.heap := T.keep _ _ _ t3 fun c hc o e => (pin' c hc o e).1
      have J5 : Inv (gcx X A' s2 H2 sc ce fp) [(a, go)] ((wipe σ vs).set j (some y)) H5 s5 := I5.unpinned
      refine seg_at (seg_yield rfl rfl rfl ⟨b, _, H5, rfl, J5, n5, q1, fun hb => ?_⟩)
      obtain ⟨m', hm', w'⟩ := q2 hb
      refine ⟨⟨i + 1, m', by omega, w', t5⟩, fun s6 hc => ?_⟩
      refine seg_again rfl (ih (i + 1) m' H5 s6 s6 (by omega) w' ⟨(calm_inv J5 hc).weak (by rw [List.length_set]) (fun c v e => ?_), by rw [hc.heap]; exact t5, n5, hna⟩)
      rw [← hw y] at e
      exact (wipe_some e).1
end
end Gx
namespace Gx
open PySem L2 GenW PyProof.Rows

section
variable {X : Cx} {elt : Expr} {x : Str} {px : Pos} {iter : Expr} {sc : Scope} {gpos : Pos} {j : Nat} {te : TE} {vs : List Nat} {σ : L2.St}
    {A A1 A' : Around} {s2 : Shared} {H2 : Hp} {ce : Env} {fp : List Addr} {it : Addr} {tn : Nat → Heap → Prop} {J : It} {W : Nat → Nat → Hp → Prop} {Q : Bool → Hp → Prop} {sv : Bool} {a g : Nat} {go : Obj}

theorem seg_begin (G : GW X elt x px iter sc gpos j te vs σ A1 s2 H2 ce fp it tn J W Q sv a g go) {n m : Nat} {H : Hp} {s₀ s : Shared} (hm : m < n) (hW : W 0 m H)
    (hat : AtT X (A1.over (.compLoop (.GeneratorExp elt [⟨.Name x px, iter, [], 0⟩] sc gpos) 0 (.ref it) .none ce) []) s2 H2 sc ce fp a go (wipe σ vs) tn 0 H s) :
    Seg (model X.prog X.w) A1 (GStop X (A1.over (.compLoop (.GeneratorExp elt [⟨.Name x px, iter, [], 0⟩] sc gpos) 0 (.ref it) .none ce) []) s2 H2 sc ce fp a go Q sv)
      (GProto X (A1.over (.compLoop (.GeneratorExp elt [⟨.Name x px, iter, [], 0⟩] sc gpos) 0 (.ref it) .none ce) []) s2 H2 sc ce fp a go tn W Q sv) n s₀
      (.compStart (.GeneratorExp elt [⟨.Name x px, iter, [], 0⟩] sc gpos) 0 (.ref it) .none ce)
      ((model X.prog X.w).den (.compStart (.GeneratorExp elt [⟨.Name x px, iter, [], 0⟩] sc gpos) 0 (.ref it) .none ce)) [] s := by
  have go' := seg_turn G n 0 m H s₀ s hm hW hat
  obtain ⟨_, ht, _, _⟩ := hat
  show Seg _ A1 _ _ _ s₀ _ ((compStart (.GeneratorExp elt [⟨.Name x px, iter, [], 0⟩] sc gpos) 0 (.ref it) .none ce).onRaise (leaving ce)) [] s
  unfold compStart
  rw [Sem.onRaise_eq_wrap]
  show Seg _ A1 _ _ _ s₀ _ ((ask >>= _).wrap _ _ _ _) [] s
  refine seg_bind_wrap (wpAny_askSetting ?_)
  split
  · exact seg_again rfl go'
  · refine seg_bind_wrap (wpAny_rule ?_)
    show Seg _ A1 _ _ _ s₀ _ ((standAt iter.pos >>= _).wrap _ _ _ _) [] s
    exact seg_bind_wrap (wpAny_standAt (seg_bind_wrap (G.turn.self _ 0 s _ _ ht (seg_again rfl go'))))

/-- the generator as its consumer finds it -/
structure Ready (X : Cx) (A1 A' : Around) (s2 : Shared) (H2 : Hp) (sc : Scope) (ce : Env) (fp : List Addr) (a g : Nat) (go : Obj) (tn : Nat → Heap → Prop) (W : Nat → Nat → Hp → Prop) (Q : Bool → Hp → Prop) (sv : Bool) (n : Nat) (s : Shared) : Prop where
  gen : s.heap.IsGen a g
  lim : s.heap.NoLimit
  bare : AllBare s.gens
  goes : ∃ gs, s.gens[g]? = some gs ∧ gs.Goes (model X.prog X.w) A1 (GStop X A' s2 H2 sc ce fp a go Q sv) (GProto X A' s2 H2 sc ce fp a go tn W Q sv) n (.send .none) (s.setGen g .running)

theorem isgen_of {τ : L2.St} {H : Hp} {s : Shared} (hg : go.cls = .type "generator" ∧ (∃ nm qn, go.data = .fields #[.int g 0, nm, qn]) ∧ go.slots = #[]) (I : Inv (gcx X A' s2 H2 sc ce fp) [(a, go)] τ H s) : s.heap.IsGen a g := by
  obtain ⟨h1, ⟨nm, qn, h2⟩, h3⟩ := hg
  exact ⟨go, nm, qn, (I.pin (a, go) (by simp)).1, h1, h2, h3⟩
theorem set_get {s : Shared} {g : Nat} {gs : GenState} (h : g < (s.setGen g gs).gens.size) : (s.setGen g gs).gens[g]? = some gs := by
  have h' : g < s.gens.size := by simpa [Shared.setGen] using h
  simp [Shared.setGen, h']

/-- one call of next -/
theorem next_gen (hg : go.cls = .type "generator" ∧ (∃ nm qn, go.data = .fields #[.int g 0, nm, qn]) ∧ go.slots = #[]) (hh : A.handled = none) (hroom : A.depth < recursionLimit) {n : Nat} {s : Shared} {E : Value → Shared → Prop} {R : Option Value → Shared → Prop}
    (r : Ready X A.in1 A' s2 H2 sc ce fp a g go tn W Q sv n s)
    (hend : ∀ τ H s', Inv (gcx X A' s2 H2 sc ce fp) [(a, go)] τ H s' → (∀ b ∈ fp, H b = none) → Q (!sv) H → R none s')
    (hsv : ∀ τ H s', Inv (gcx X A' s2 H2 sc ce fp) [(a, go)] τ H s' → (∀ b ∈ fp, H b = none) → Q sv H → R (some (.bool sv)) s')
    (hgo : ∀ b k s', b ≠ sv → k < n → Ready X A.in1 A' s2 H2 sc ce fp a g go tn W Q sv k s' → R (some (.bool b)) s') :
    wpAny (model X.prog X.w) A (pyNext (.ref a)) R E s := by
  obtain ⟨r1, r2, r3, gs, r4, r5⟩ := r
  have hgs : g + 1 ≤ s.gens.size := by
    rcases Nat.lt_or_ge g s.gens.size with z | z
    · exact z
    · rw [Array.getElem?_eq_none z] at r4; cases r4
  refine wpAny_gsz hgs ?_
  refine wpAny_pyNext_genexpQ (P := fun _ _ s₁ => ∃ τ H, Inv (gcx X A' s2 H2 sc ce fp) [(a, go)] τ H s₁ ∧ (∀ b ∈ fp, H b = none) ∧ Q (!sv) H) hh r2 hroom r1 r4 r5 (fun v s₁ gs' hb hy => ?_) (fun s₁ hp h' hk => ?_)
  · intro hsz
    obtain ⟨b, τ, H, rfl, I, hn, q1, q2⟩ := hy
    have cal : ∀ {x : GenState}, x.bare = true → Calm s₁ (s₁.setGen g x) := fun hx => ⟨rfl, rfl, bare_set I.bare hx⟩
    by_cases e : b = sv
    · subst e
      exact hsv τ H _ (calm_inv I (cal hb)) hn (q1 rfl)
    · obtain ⟨⟨i, m, hm, _, _⟩, hgo'⟩ := q2 e
      cases n with
      | zero => exact absurd hm (Nat.not_lt_zero m)
      | succ k =>
        have I' := calm_inv I (cal hb)
        refine hgo b k _ e (Nat.lt_succ_self k) ⟨isgen_of hg I', I'.nolimit, I'.bare, gs', set_get hsz, hgo' _ ⟨rfl, rfl, ?_⟩⟩
        exact bare_set I'.bare rfl
  · intro _
    obtain ⟨τ, H, I, hn, q⟩ := hp
    have I1 : Inv (gcx X A' s2 H2 sc ce fp) [(a, go)] τ H (s₁.setGen g .finished) := calm_inv I ⟨rfl, rfl, bare_set I.bare rfl⟩
    exact hend τ H _ (I1.kept (t' := (s₁.setGen g .finished).toks) hk) hn q

theorem run_all (hg : go.cls = .type "generator" ∧ (∃ nm qn, go.data = .fields #[.int g 0, nm, qn]) ∧ go.slots = #[]) (hh : A.handled = none) (hroom : A.depth < recursionLimit) {R : Result → Shared → Prop}
    (hR : ∀ b τ H s', Inv (gcx X A' s2 H2 sc ce fp) [(a, go)] τ H s' → (∀ b ∈ fp, H b = none) → Q b H → R (.ok (.ret (.bool b))) s') : ∀ (n : Nat) (s : Shared), Ready X A.in1.in1 A' s2 H2 sc ce fp a g go tn W Q false n s →
    codeAny (model X.prog X.w) A (.builtin "all.loop" ⟨[.ref a], []⟩) R s := by
  intro n
  induction n using Nat.strongRecOn with
  | ind n ih =>
    intro s r
    refine codeAny_builtin F.entry_all_loop ?_
    rw [Around.under_plainId F.plain_all_loop _]
    show wpAny _ A.in1 (pyNext (.ref a) >>= _) _ _ s
    refine wpAny_bind (next_gen (A := A.in1) hg hh hroom r (fun τ H s' I hn q => ?_) (fun τ H s' I hn q => ?_) (fun b k s' hb hk r' => ?_))
    · exact wpAny_bind (wpAny_rule (wpAny_pure (hR true τ H s' I hn q)))
    · refine wpAny_bind (wpAny_holding (wpAny_truthy_bool ?_))
      refine wpAny_bind (wpAny_letGo ?_)
      simp only [Bool.false_eq_true, if_false]
      exact wpAny_bind (wpAny_rule (wpAny_pure (hR false τ H s' I hn q)))
    · have hb' : b = true := by cases b <;> simp at hb ⊢
      subst hb'
      refine wpAny_bind (wpAny_holding (wpAny_truthy_bool ?_))
      refine wpAny_bind (wpAny_letGo ?_)
      simp only [if_true]
      exact wpAny_pure ⟨plainId_quiet F.plain_all_loop _, ih k hk s' r'⟩
theorem run_any (hg : go.cls = .type "generator" ∧ (∃ nm qn, go.data = .fields #[.int g 0, nm, qn]) ∧ go.slots = #[]) (hh : A.handled = none) (hroom : A.depth < recursionLimit) {R : Result → Shared → Prop}
    (hR : ∀ b τ H s', Inv (gcx X A' s2 H2 sc ce fp) [(a, go)] τ H s' → (∀ b ∈ fp, H b = none) → Q b H → R (.ok (.ret (.bool b))) s') : ∀ (n : Nat) (s : Shared), Ready X A.in1.in1 A' s2 H2 sc ce fp a g go tn W Q true n s →
    codeAny (model X.prog X.w) A (.builtin "any.loop" ⟨[.ref a], []⟩) R s := by
  intro n
  induction n using Nat.strongRecOn with
  | ind n ih =>
    intro s r
    refine codeAny_builtin F.entry_any_loop ?_
    rw [Around.under_plainId F.plain_any_loop _]
    show wpAny _ A.in1 (pyNext (.ref a) >>= _) _ _ s
    refine wpAny_bind (next_gen (A := A.in1) hg hh hroom r (fun τ H s' I hn q => ?_) (fun τ H s' I hn q => ?_) (fun b k s' hb hk r' => ?_))
    · exact wpAny_bind (wpAny_rule (wpAny_pure (hR false τ H s' I hn q)))
    · refine wpAny_bind (wpAny_holding (wpAny_truthy_bool ?_))
      refine wpAny_bind (wpAny_letGo ?_)
      simp only [if_true]
      exact wpAny_bind (wpAny_rule (wpAny_pure (hR true τ H s' I hn q)))
    · have hb' : b = false := by cases b <;> simp at hb ⊢
      subst hb'
      refine wpAny_bind (wpAny_holding (wpAny_truthy_bool ?_))
      refine wpAny_bind (wpAny_letGo ?_)
      simp only [Bool.false_eq_true, if_false]
      exact wpAny_pure ⟨plainId_quiet F.plain_any_loop _, ih k hk s' r'⟩
end
end Gx
namespace Gx
open PySem L2 GenW PyProof.Rows

theorem over_gen {A : Around} {elt : Expr} {x : Str} {px : Pos} {iter : Expr} {sc : Scope} {gpos : Pos} {it acc : Value} {env : Env} :
    A.over (.compLoop (.GeneratorExp elt [⟨.Name x px, iter, [], 0⟩] sc gpos) 0 it acc env) [] = A.deeper env := by
  obtain ⟨a, b, c, d, e⟩ := A
  simp [Around.over, Around.deeper, marksOver, frameCount, unitsOf, envsOf, guardsOf, pushEnvs, pushGuards, Code.envs, Code.env?, Code.isFrame, Code.guards, Code.isGuard, Code.weight, Code.frames, Code.isCreation, Code.isCaller, Code.cUnits]

section
variable {X : Cx} {pins : List (Addr × Obj)} {σ : L2.St} {H : Hp} {s : Shared}

/-- the code object of a generator expression: the def's table may grow -/
theorem code_made {c P : Addr} {pos : Pos} {qn : Str} {sc : Scope} {E : Value → Shared → Prop} {Q : Value → Shared → Prop} (TB : GxR.TabB X.base X.mg c P) (hcode : X.env.code = .ref c) (I : Inv X pins σ H s) (hP : GxR.TabG H P)
    (h : ∀ v H' s', GxR.Tabbed P H H' → Inv X pins σ H' s' → (∀ b o, b ≠ P → s.heap.get? b = some o → s'.heap.get? b = some o) → Q v s') :
    wpAny (model X.prog X.w) X.A (genexprCode X.env pos qn sc) Q E s := by
  obtain ⟨ps, hp, ht⟩ := hP
  have hs : s.heap.get? P = some { cls := .none, data := .fields ps } := I.hok P _ hp
  have cd : PySem.W.CodeHd s.heap c P := TB.code.keeps I.bk
  cases hf : codeAmong pos ps.toList with
  | none =>
    refine wpAny_genexprCodeX hcode (cd.code hs ht) (cd.tab hs) hf fun c' h' tk hx hge hlt hco' _ htab' _ => ?_
    obtain ⟨o1, v1, f1, tf, fl, tg, inF, tx, tt, op, _, _, _, _, _, _, _, _, _, htr, _⟩ := hco'
    exact h (.ref c') _ { s with heap := h', toks := tk } ⟨⟨_, upd_same, htr⟩, fun b hb => upd_ne hb⟩ (GxR.inv_tab (g' := s.gens) (d' := s.drawn) (t' := tk) I hp (fun b o hb e => hx b o hb e) htab'.2 I.bare) hx
  | some cv =>
    refine wpAny_genexprCode_hit hcode (cd.code hs ht) hf ?_
    exact h cv H s ⟨⟨ps, hp, ht⟩, fun _ _ => rfl⟩ I fun b o _ e => e

/-- all(elt for x in iter) (sv := false), any (sv := true): P the def's table -/
def tGen (sv : Bool) (P : Addr) (wi : TI) (te : TE) (j : Nat) : TE := fun σ H Q => wi σ H fun J H1 => GxR.TabG H1 P ∧ ∀ H2, GxR.Tabbed P H1 H2 → ∃ W : Nat → Nat → Hp → Prop, (∃ m, W 0 m H2) ∧
  ∀ i m H, W i m H → (J.stop i H ∧ Q (.bl (!sv)) H) ∨ (J.go i H ∧ ∀ y H', J.yld i H y H' → te ((wipe σ [j]).set j (some y)) H' fun z H3 => ∃ b, z = .bl b ∧ ((b = sv → Q (.bl sv) H3) ∧ (b ≠ sv → ∃ m', m' < m ∧ W (i + 1) m' H3)))

theorem gen_made {c P : Addr} {k j : Nat} {elt iter : Expr} {x : Str} {px gpos : Pos} {sc : Scope} {wi : TI} {te : TE} {sv : Bool} {Q : VK} {Q' : Value → Shared → Prop}
    (hr : Room k X.A) (TB : GxR.TabB X.base X.mg c P) (hcode : X.env.code = .ref c) (hcalm : X.calm = true) (hN : X.N.Nodup) (hco : sc.isCoroutine = false) (h0 : sc.names.lookup (".0" : Str) = some .local)
    (hi : PI X (.Name x px) iter wi) (ok : BlkOk X.N X.env.scope sc [(x, j)]) (hj : X.N[j]? = some x) (hl : Loc sc x)
    (he : ∀ (A' : Around) (s : Shared) (H : Hp) (q : Str) (code : Value) (fp : List Addr), (∀ i, Room (i + 3) X.A → Room i A') → PE (gcx X A' s H sc (genv X s sc q code) fp) elt te)
    (hs : ∀ v, genFold iter X.env v = pure v) (I : Inv X pins σ H s) (h : tGen sv P wi te j σ H Q)
    (hQ : ∀ (A' : Around) (s2 : Shared) (H2 : Hp) (ce : Env) (fp : List Addr) (a g : Nat) (go : Obj) (tn : Nat → Heap → Prop) (W : Nat → Nat → Hp → Prop) (n : Nat) (s5 : Shared),
      (go.cls = .type "generator" ∧ (∃ nm qn, go.data = .fields #[.int g 0, nm, qn]) ∧ go.slots = #[]) → Ready X X.A.in1.in1 A' s2 H2 sc ce fp a g go tn W (fun b H => Q (.bl b) H) sv n s5 →
      (∀ τ H' s', Inv (gcx X A' s2 H2 sc ce fp) [(a, go)] τ H' s' → (∀ b ∈ fp, H' b = none) → Inv X pins σ H' s') → Q' (.ref a) s5) :
    wpAny (model X.prog X.w) X.A (eval (.GeneratorExp elt [⟨.Name x px, iter, [], 0⟩] sc gpos) X.env) Q' X.xe s := by
  rw [eval_GeneratorExp1 _ _ _ _ _ _ _ hco, closure_ok (fun y hy e => free_cell I ok hy e)]
  refine wpAny_bind (thn (hi.run pins s σ H _ I h) fun xv s1 h1 => ?_)
  refine wpAny_bind (wpAny_standAt ?_)
  refine wpAny_bind (wpAny_of_eq (hs xv) ?_)
  refine wpAny_bind (wpAny_holding (thn h1 fun itv s2 h2 => ?_))
  obtain ⟨it, fp, tn, J, H1, rfl, I2, T, t2, f2, hP, q⟩ := h2
  refine wpAny_bind (wpAny_enterFrame I2.nolimit hr.depth ?_)
  refine wpAny_bind (wpAny_pure ?_)
  refine wpAny_bind (code_made TB hcode I2 hP fun code H2 s3 hT I3 k3 => ?_)
  obtain ⟨W, ⟨m0, w0⟩, step⟩ := q H2 hT
  obtain ⟨ps1, hp1, _⟩ := hP
  have nP : ∀ b ∈ fp, b ≠ P := fun b hb e => by
    have := (f2 b hb).1
    rw [e, hp1] at this
    cases this
  have f3 : ∀ b ∈ fp, FpOk X pins H2 b := fun b hb => ⟨(hT.2 b (nP b hb)).trans (f2 b hb).1, (f2 b hb).2⟩
  have t3 : tn 0 s3.heap := T.keep _ _ _ t2 fun b hb o e => k3 b o (nP b hb) e
  have l3 : ∀ b ∈ fp, b < s3.heap.objs.size := fun b hb => by
    obtain ⟨o, e, _⟩ := T.obj _ _ t3 b hb
    exact Heap.lt_size e
  have bmx : ∃ (bm : Addr) (ob : Obj), X.mg "__builtins__" = some (.ref bm) ∧ bm ≠ builtinsNs ∧ s3.heap.get? bm = some ob ∧ ob.cls = .type "module" ∧ ob.dict = some builtinsNs ∧ ob.data = .plain := by
    obtain ⟨bm, ob, e1, e2, e3, e4, e5, e6, e7, e8⟩ := TB.bm
    exact ⟨bm, ob, e1, e2, I3.bk _ _ e5, e6, e7, e8⟩
  obtain ⟨bm, ob, b1, b2, b3, b4, b5, b6⟩ := bmx
  refine wpAny_bind (wpAny_builtinsFor (m := X.mg) (by rw [I3.ok.glob]; exact I3.mod.glob.keeps I3.bk) b1 b2 b3 b4 b5 b6 ?_)
  refine wpAny_bind (newFrame ok.kind h0 fun h' tk ns sb => ?_)
  -- the new frame
  let A1 := X.A.in1.in1
  let ce := genv X s3 sc (X.env.qual ++ "<genexpr>.") code
  have eA : A1.over (.compLoop (.GeneratorExp elt [⟨.Name x px, iter, [], 0⟩] sc gpos) 0 (.ref it) .none ce) [] = A1.deeper ce := over_gen
  have frA : (A1.deeper ce).frames = some (ce :: X.stack) := Around.frames_deeper I3.ok.frames
  have hdA : (A1.deeper ce).handled = none := I3.ok.hd hcalm
  have I4 : Inv (gcx X (A1.deeper ce) s3 H2 sc ce fp) [] (wipe σ [j]) H2 { s3 with heap := h', toks := tk } :=
    gen_start (own := [(x, j)]) I3 ok hN (fun b hb => ⟨f3 b hb, l3 b hb⟩) frA hdA ns sb
  have t4 : tn 0 h' := T.keep _ _ _ t3 fun b hb o e => (sb.2 b (Nat.ne_of_lt (l3 b hb))).trans (pushCells_keeps _ _ _ _ (Heap.get?_push_of_some _ e))
  have rmA : ∀ i, Room (i + 3) X.A → Room i (A1.deeper ce) := fun i r => (r.in1.in1).deeper ce
  simp only [newGenerator, newFields]
  refine wpAny_bind (wpAny_newGen (wpAny_bind (wpAny_mkText (wpAny_bind (wpAny_mkText (wpAny_newObj_type ?_ (by size_fits)))))))
  let a := h'.objs.size
  let g := s3.gens.size
  generalize hgo : ({ cls := .type "generator", data := .fields #[.int g 0, .str "<genexpr>" tk, .str (X.env.qual ++ "<genexpr>") (tk + 1)] } : Obj) = go
  have gP : go.cls = .type "generator" ∧ (∃ nm qn, go.data = .fields #[.int g 0, nm, qn]) ∧ go.slots = #[] := by
    rw [← hgo]
    exact ⟨rfl, ⟨_, _, rfl⟩, rfl⟩
  have nocell : ∀ v, go.data ≠ .cell v := fun v e => by
    obtain ⟨_, ⟨nm, qn, e2⟩, _⟩ := gP
    rw [e2] at e
    cases e
  generalize hs5 : ({ s3 with gens := s3.gens.push (.fresh (.compStart (.GeneratorExp elt [⟨.Name x px, iter, [], 0⟩] sc gpos) 0 (.ref it) .none ce)), toks := tk + 1 + 1, heap := h'.push go } : Shared) = s5
  have hp5 : s5.heap = h'.push go := by rw [← hs5]
  have gn5 : s5.gens = s3.gens.push (.fresh (.compStart (.GeneratorExp elt [⟨.Name x px, iter, [], 0⟩] sc gpos) 0 (.ref it) .none ce)) := by rw [← hs5]
  have kp5 : ∀ b o, h'.get? b = some o → s5.heap.get? b = some o := fun b o e => by
    rw [hp5]
    exact Heap.get?_push_of_some _ e
  have ha5 : s5.heap.get? a = some go := by
    rw [hp5]
    refine Heap.get?_push_size _ ?_
    rw [← hgo]
    rfl
  have br5 : AllBare s5.gens := by
    rw [gn5]
    exact I3.bare.push rfl
  have I5 : Inv (gcx X (A1.deeper ce) s3 H2 sc ce fp) [] (wipe σ [j]) H2 s5 :=
    I4.call' (ch := []) (by rw [← hs5]) (Un.kept kp5) (I4.hok.kept kp5) br5 (fun b z => absurd z (by simp))
  have aL : s3.heap.objs.size < a := I4.lt
  have I6pin : ∀ p ∈ ([] : List (Addr × Obj)) ++ [(a, go)], s5.heap.get? p.1 = some p.2 ∧ H2 p.1 = none ∧ p.1 ≠ ce.locals ∧ p.1 ∉ frs X.stack ∧ ∀ v, p.2.data ≠ .cell v := fun p hp => by
    have e : p = (a, go) := by simpa using hp
    subst e
    exact ⟨ha5, I4.hok.fresh (Nat.le_refl _), Nat.ne_of_gt aL, I4.nofs (Nat.le_refl _), nocell⟩
  have I6 : Inv (gcx X (A1.deeper ce) s3 H2 sc ce fp) [(a, go)] (wipe σ [j]) H2 s5 := { I5 with pin := I6pin }
  have neA : ∀ b ∈ fp, b ≠ a := fun b hb => Nat.ne_of_lt (Nat.lt_trans (l3 b hb) aL)
  have t5 : tn 0 s5.heap := T.keep _ _ _ t4 fun b _ o e => kp5 b o e
  have fnone : ∀ b ∈ fp, H2 b = none := fun b hb => (f3 b hb).1
  have G : GW X elt x px iter sc gpos j te [j] σ A1 s3 H2 ce fp it tn J W (fun b H => Q (.bl b) H) sv a g go := by
    refine ⟨hco, gP, T, hcalm, ?_, ?_, fun y => ?_, step⟩
    · rw [eA]
      refine pg_name hN hj hl ?_
      rcases hl with z | z
      · exact .inr z
      · exact .inl (beq_iff_eq.mpr z)
    · rw [eA]
      exact he (A1.deeper ce) s3 H2 _ code fp rmA
    · simp [wipe]
  suffices z : Q' (.ref a) s5 by
    rw [← hs5, ← hgo] at z
    exact z
  refine hQ (A1.deeper ce) s3 H2 ce fp a g go tn W (m0 + 1) s5 gP ⟨isgen_of gP I6, I6.nolimit, br5, .fresh (.compStart (.GeneratorExp elt [⟨.Name x px, iter, [], 0⟩] sc gpos) 0 (.ref it) .none ce), ?_, rfl, ?_⟩ ?_
  · rw [gn5]
    exact Array.getElem?_push_size ..
  · have cal : Calm s5 (s5.setGen g .running) := ⟨rfl, rfl, bare_set br5 rfl⟩
    have sb := seg_begin G (n := m0 + 1) (m := m0) (H := H2) (s₀ := s5.setGen g .running) (s := s5.setGen g .running) (Nat.lt_succ_self m0) w0 (by rw [eA]; exact ⟨calm_inv I6 cal, by rw [cal.heap]; exact t5, fnone, neA⟩)
    rw [eA] at sb
    exact sb
  · intro τ H' s' I' hn'
    exact I3.call' (ch := fp) I'.os I'.base I'.hok I'.bare fun b hb => ⟨(f3 b hb).2.2.2.1, (f3 b hb).2.1, (f3 b hb).2.2.2.2.1, (f3 b hb).2.2.2.2.2⟩

/-- all(elt for x in iter) -/
theorem pe_allG {c P : Addr} {k j : Nat} {elt iter : Expr} {x : Str} {px p pos gpos : Pos} {sc : Scope} {wi : TI} {te : TE}
    (hr : Room k X.A) (hg : Gl X "all") (hm : X.mg "all" = none) (TB : GxR.TabB X.base X.mg c P) (hcode : X.env.code = .ref c) (hcalm : X.calm = true) (hN : X.N.Nodup)
    (hi : PI X (.Name x px) iter wi) (ok : BlkOk X.N X.env.scope sc [(x, j)]) (hj : X.N[j]? = some x) (hl : Loc sc x)
    (he : ∀ (A' : Around) (s : Shared) (H : Hp) (q : Str) (code : Value) (fp : List Addr), (∀ i, Room (i + 3) X.A → Room i A') → PE (gcx X A' s H sc (genv X s sc q code) fp) elt te)
    (h0 : sc.names.lookup (".0" : Str) = some .local := by rfl) (hco : sc.isCoroutine = false := by rfl) (hs : ∀ v, genFold iter X.env v = pure v := by intro _; rfl)
    (hst : starEach [.GeneratorExp elt [⟨.Name x px, iter, [], 0⟩] sc gpos] X.env = (false, eval (.GeneratorExp elt [⟨.Name x px, iter, [], 0⟩] sc gpos) X.env) :: starEach [] X.env := by rfl) :
    PE X (.Call (.Name "all" p) [.GeneratorExp elt [⟨.Name x px, iter, [], 0⟩] sc gpos] [] pos) (tGen false P wi te j) := by
  refine ⟨fun pins s σ H Q I h => ?_⟩
  refine wpAny_Call_Name_kw (ld_blt I hg hm (show bootBuiltins "all" = some (.builtin "all") by decide +kernel) ?_)
  refine PyProof.Rows.callWith_builtin1 ?_ hst (by rfl)
  rw [hst]
  show wpAny _ _ (spliced ((false, eval (.GeneratorExp elt [⟨.Name x px, iter, [], 0⟩] sc gpos) X.env) :: backTo pos (starEach [] X.env))) _ _ s
  refine Calls.spliced_cons (gen_made hr TB hcode hcalm hN hco h0 hi ok hj hl he hs I h fun A' s2 H2 ce fp a g go tn W n s5 gP R5 back => ?_)
  refine Calls.spliced_nil ?_
  refine call_function_tree F.kind_all F.plain_all F.entry_all (F.args_all1 _) ?_
  unfold Builtin.«all»
  refine wpAny_bind (m := oneArg "all" _) (wpAny_pure (wpAny_bind (wpAny_pyIter_gen R5.gen ?_)))
  exact wpAny_pure ⟨plainId_quiet F.plain_all_loop _, run_all gP hr.hd hr.depth (fun b τ H' s' I' hn q => ⟨.bl b, H', back τ H' s' I' hn, rfl, q⟩) n s5 R5⟩
/-- any(elt for x in iter) -/
theorem pe_anyG {c P : Addr} {k j : Nat} {elt iter : Expr} {x : Str} {px p pos gpos : Pos} {sc : Scope} {wi : TI} {te : TE}
    (hr : Room k X.A) (hg : Gl X "any") (hm : X.mg "any" = none) (TB : GxR.TabB X.base X.mg c P) (hcode : X.env.code = .ref c) (hcalm : X.calm = true) (hN : X.N.Nodup)
    (hi : PI X (.Name x px) iter wi) (ok : BlkOk X.N X.env.scope sc [(x, j)]) (hj : X.N[j]? = some x) (hl : Loc sc x)
    (he : ∀ (A' : Around) (s : Shared) (H : Hp) (q : Str) (code : Value) (fp : List Addr), (∀ i, Room (i + 3) X.A → Room i A') → PE (gcx X A' s H sc (genv X s sc q code) fp) elt te)
    (h0 : sc.names.lookup (".0" : Str) = some .local := by rfl) (hco : sc.isCoroutine = false := by rfl) (hs : ∀ v, genFold iter X.env v = pure v := by intro _; rfl)
    (hst : starEach [.GeneratorExp elt [⟨.Name x px, iter, [], 0⟩] sc gpos] X.env = (false, eval (.GeneratorExp elt [⟨.Name x px, iter, [], 0⟩] sc gpos) X.env) :: starEach [] X.env := by rfl) :
    PE X (.Call (.Name "any" p) [.GeneratorExp elt [⟨.Name x px, iter, [], 0⟩] sc gpos] [] pos) (tGen true P wi te j) := by
  refine ⟨fun pins s σ H Q I h => ?_⟩
  refine wpAny_Call_Name_kw (ld_blt I hg hm boot_any ?_)
  refine PyProof.Rows.callWith_builtin1 ?_ hst (by rfl)
  rw [hst]
  show wpAny _ _ (spliced ((false, eval (.GeneratorExp elt [⟨.Name x px, iter, [], 0⟩] sc gpos) X.env) :: backTo pos (starEach [] X.env))) _ _ s
  refine Calls.spliced_cons (gen_made hr TB hcode hcalm hN hco h0 hi ok hj hl he hs I h fun A' s2 H2 ce fp a g go tn W n s5 gP R5 back => ?_)
  refine Calls.spliced_nil ?_
  refine call_function_tree F.kind_any F.plain_any F.entry_any (F.args_any1 _) ?_
  unfold Builtin.«any»
  refine wpAny_bind (m := oneArg "any" _) (wpAny_pure (wpAny_bind (wpAny_pyIter_gen R5.gen ?_)))
  exact wpAny_pure ⟨plainId_quiet F.plain_any_loop _, run_any gP hr.hd hr.depth (fun b τ H' s' I' hn q => ⟨.bl b, H', back τ H' s' I' hn, rfl, q⟩) n s5 R5⟩
end
end Gx
/-! heaps that grow (a def's table of code objects too), and what evaluates to what over them -/
namespace Kx
open PySem L2 PyProof.Rows

structure Ex (H H' : Hp) : Prop where
  keep : ∀ a o, (∀ ps, o ≠ .tbl ps) → H a = some o → H' a = some o
  tab : ∀ P, GxR.TabG H P → GxR.TabG H' P
  free : ∀ a, H' a = none → H a = none
theorem Ex.refl (H : Hp) : Ex H H := ⟨fun _ _ _ e => e, fun _ t => t, fun _ e => e⟩
theorem Ex.trans {H H1 H2 : Hp} (x : Ex H H1) (y : Ex H1 H2) : Ex H H2 :=
  ⟨fun a o n e => y.keep a o n (x.keep a o n e), fun P t => y.tab P (x.tab P t), fun a e => x.free a (y.free a e)⟩
/-- an object that H does not know may be laid or changed -/
theorem Ex.mut {H H' : Hp} {p : Addr} {o : HO} (x : Ex H H') (h : H p = none) : Ex H (upd H' p o) := by
  refine ⟨fun a u n e => ?_, fun P t => ?_, fun a e => ?_⟩
  · rw [upd_ne (ne_of_none e h)]
    exact x.keep a u n e
  · obtain ⟨ps, e, tr⟩ := t
    obtain ⟨ps', e', tr'⟩ := x.tab P ⟨ps, e, tr⟩
    exact ⟨ps', by rw [upd_ne (ne_of_none e h)]; exact e', tr'⟩
  · by_cases ha : a = p
    · rw [ha]; exact h
    · rw [upd_ne ha] at e
      exact x.free a e
theorem Ex.new {H : Hp} {p : Addr} {o : HO} (h : H p = none) : Ex H (upd H p o) := (Ex.refl H).mut h
theorem Ex.tabbed {H H' : Hp} {P : Addr} (h : GxR.TabG H P) (t : GxR.Tabbed P H H') : Ex H H' := by
  obtain ⟨ps, e, tr⟩ := h
  refine ⟨fun a u n ea => ?_, fun P' t' => ?_, fun a ea => ?_⟩
  · have : a ≠ P := fun z => by
      rw [z, e] at ea
      exact n ps (Option.some.inj ea).symm
    rw [t.2 a this]
    exact ea
  · by_cases z : P' = P
    · rw [z]; exact t.1
    · obtain ⟨q, eq, tq⟩ := t'
      exact ⟨q, by rw [t.2 P' z]; exact eq, tq⟩
  · by_cases z : a = P
    · obtain ⟨q, eq, _⟩ := t.1
      rw [z, eq] at ea
      cases ea
    · rw [t.2 a z] at ea
      exact ea
theorem Ex.lst {H H' : Hp} {p : Addr} {xs : List V} (x : Ex H H') (h : H p = some (.lst xs)) : H' p = some (.lst xs) := x.keep p _ (fun _ e => nomatch e) h
theorem Ex.tup {H H' : Hp} {p : Addr} {xs : List V} (x : Ex H H') (h : H p = some (.tup xs)) : H' p = some (.tup xs) := x.keep p _ (fun _ e => nomatch e) h
theorem Ex.rdL {H H' : Hp} {p : Addr} {xs : List V} (x : Ex H H') (h : Rd H p (.lst xs)) : Rd H' p (.lst xs) := by
  rcases h with h | ⟨o, h⟩
  · exact .inl (x.lst h)
  · exact .inr ⟨o, x.keep p _ (fun _ e => nomatch e) h⟩
theorem Ex.rdT {H H' : Hp} {p : Addr} {xs : List V} (x : Ex H H') (h : Rd H p (.tup xs)) : Rd H' p (.tup xs) := by
  rcases h with h | ⟨o, h⟩
  · exact .inl (x.tup h)
  · exact .inr ⟨o, x.keep p _ (fun _ e => nomatch e) h⟩
theorem Ex.sl {K : PySem.W.Frag} {H H' : Hp} {p : Addr} {xs : List V} (x : Ex H H') (h : SqL K H p xs) : SqL K H' p xs := h.elim (fun q => .inl (x.rdL q)) .inr
theorem Ex.st {K : PySem.W.Frag} {H H' : Hp} {p : Addr} {xs : List V} (x : Ex H H') (h : SqT K H p xs) : SqT K H' p xs := h.elim (fun q => .inl (x.rdT q)) .inr
theorem sl_of {K : PySem.W.Frag} {H : Hp} {p : Addr} {xs : List V} (h : H p = some (.lst xs)) : SqL K H p xs := .inl (.inl h)
theorem st_of {K : PySem.W.Frag} {H : Hp} {p : Addr} {xs : List V} (h : H p = some (.tup xs)) : SqT K H p xs := .inl (.inl h)
/-- lists that are one: what is read there is the same -/
theorem sz_ok {n : Nat} (h : n ≤ 1000000) : n ≤ sizeLine := Nat.le_trans h (by decide)
theorem sz_lt {n : Nat} (h : n < 1000000) : n < sizeLine := Nat.lt_of_lt_of_le h (by decide)

/-! ### numbers -/
/-- places as values -/
def nI (k : Nat) : V := .int (k : Int)
theorem nI_inj {a b : Nat} (h : nI a = nI b) : a = b := by
  have := V.int.inj h
  omega
theorem nI_get {xs : List Nat} {i : Nat} {v : V} (h : (xs.map nI)[i]? = some v) : ∃ k, xs[i]? = some k ∧ v = nI k := by
  rw [List.getElem?_map] at h
  cases e : xs[i]? with
  | none => rw [e] at h; cases h
  | some k => rw [e] at h; exact ⟨k, rfl, (Option.some.inj h).symm⟩
theorem get_nI {xs : List Nat} {i k : Nat} (h : xs[i]? = some k) : (xs.map nI)[i]? = some (nI k) := by
  rw [List.getElem?_map, h]; rfl
theorem flat_nI (xs : List Nat) : (xs.map nI).all flatV = true := by
  rw [List.all_eq_true]
  intro v hv
  obtain ⟨k, _, rfl⟩ := List.mem_map.mp hv
  rfl
theorem inV_nI (k : Nat) (xs : List Nat) : inV (nI k) (xs.map nI) = decide (k ∈ xs) := by
  show (xs.map nI).any (fun y => eqV y (nI k)) = _
  rw [Bool.eq_iff_iff, List.any_eq_true, decide_eq_true_iff]
  constructor
  · rintro ⟨v, hv, e⟩
    obtain ⟨x, hx, rfl⟩ := List.mem_map.mp hv
    have e' : ((x : Int) == (k : Int)) = true := e
    have : x = k := by have := eq_of_beq e'; omega
    rw [← this]; exact hx
  · intro h
    exact ⟨nI k, List.mem_map.mpr ⟨k, h, rfl⟩, (beq_self_eq_true (k : Int))⟩
/-- a list of lists (tuples) of places -/
def LL (H : Hp) (as : List Addr) (xss : List (List Nat)) : Prop := as.length = xss.length ∧ ∀ (i : Nat) (a : Addr) (xs : List Nat), as[i]? = some a → xss[i]? = some xs → H a = some (.lst (xs.map nI))
def TT_ (H : Hp) (as : List Addr) (xss : List (List Nat)) : Prop := as.length = xss.length ∧ ∀ (i : Nat) (a : Addr) (xs : List Nat), as[i]? = some a → xss[i]? = some xs → H a = some (.tup (xs.map nI))
theorem LL.ex {H H' : Hp} {as : List Addr} {xss : List (List Nat)} (h : LL H as xss) (x : Ex H H') : LL H' as xss := ⟨h.1, fun i a xs e1 e2 => x.lst (h.2 i a xs e1 e2)⟩
theorem TT_.ex {H H' : Hp} {as : List Addr} {xss : List (List Nat)} (h : TT_ H as xss) (x : Ex H H') : TT_ H' as xss := ⟨h.1, fun i a xs e1 e2 => x.tup (h.2 i a xs e1 e2)⟩
theorem LL.snoc {H : Hp} {as : List Addr} {xss : List (List Nat)} {a : Addr} {xs : List Nat} (h : LL H as xss) (ha : H a = some (.lst (xs.map nI))) : LL H (as ++ [a]) (xss ++ [xs]) := by
  refine ⟨by rw [List.length_append, List.length_append, h.1, List.length_singleton, List.length_singleton], fun i b ys e1 e2 => ?_⟩
  by_cases hi : i < as.length
  · rw [List.getElem?_append_left hi] at e1
    rw [List.getElem?_append_left (by rw [← h.1]; exact hi)] at e2
    exact h.2 i b ys e1 e2
  · have hl := (List.getElem?_eq_some_iff.mp e1).1
    rw [List.length_append] at hl
    have e : i = as.length := by simp at hl; omega
    subst e
    rw [List.getElem?_append_right (Nat.le_refl _), Nat.sub_self] at e1
    rw [h.1, List.getElem?_append_right (Nat.le_refl _), Nat.sub_self] at e2
    have q1 : a = b := Option.some.inj e1
    have q2 : xs = ys := Option.some.inj e2
    rw [← q1, ← q2]; exact ha
theorem TT_.snoc {H : Hp} {as : List Addr} {xss : List (List Nat)} {a : Addr} {xs : List Nat} (h : TT_ H as xss) (ha : H a = some (.tup (xs.map nI))) : TT_ H (as ++ [a]) (xss ++ [xs]) := by
  refine ⟨by rw [List.length_append, List.length_append, h.1, List.length_singleton, List.length_singleton], fun i b ys e1 e2 => ?_⟩
  by_cases hi : i < as.length
  · rw [List.getElem?_append_left hi] at e1
    rw [List.getElem?_append_left (by rw [← h.1]; exact hi)] at e2
    exact h.2 i b ys e1 e2
  · have hl := (List.getElem?_eq_some_iff.mp e1).1
    rw [List.length_append] at hl
    have e : i = as.length := by simp at hl; omega
    subst e
    rw [List.getElem?_append_right (Nat.le_refl _), Nat.sub_self] at e1
    rw [h.1, List.getElem?_append_right (Nat.le_refl _), Nat.sub_self] at e2
    have q1 : a = b := Option.some.inj e1
    have q2 : xs = ys := Option.some.inj e2
    rw [← q1, ← q2]; exact ha
theorem LL.nil {H : Hp} : LL H [] [] := ⟨rfl, fun i a xs e => by simp at e⟩
theorem TT_.nil {H : Hp} : TT_ H [] [] := ⟨rfl, fun i a xs e => by simp at e⟩
/-- the promises' shapes -/
def RetV (v : V) (H : Hp) (Q : VK) : Prop := ∀ H2, Ex H H2 → Q v H2
def RetL (xs : List V) (H : Hp) (Q : VK) : Prop := ∀ p H2, H p = none → Ex H H2 → H2 p = some (.lst xs) → Q (.ref p) H2
def RetT (xs : List V) (H : Hp) (Q : VK) : Prop := ∀ p H2, H p = none → Ex H H2 → H2 p = some (.tup xs) → Q (.ref p) H2
theorem RetV.go {v : V} {H H' : Hp} {Q : VK} (k : RetV v H Q) (e : Ex H H') : Q v H' := k H' e
theorem RetL.go {xs : List V} {H H' H2 : Hp} {p : Addr} {Q : VK} (k : RetL xs H Q) (e : Ex H H') (hp : H' p = none) (e2 : Ex H' H2) (h : H2 p = some (.lst xs)) : Q (.ref p) H2 := k p H2 (e.free p hp) (e.trans e2) h
theorem RetT.go {xs : List V} {H H' H2 : Hp} {p : Addr} {Q : VK} (k : RetT xs H Q) (e : Ex H H') (hp : H' p = none) (e2 : Ex H' H2) (h : H2 p = some (.tup xs)) : Q (.ref p) H2 := k p H2 (e.free p hp) (e.trans e2) h
end Kx
/-! the text by its places -/
namespace Tx
open PySem L2 PyProof.Rows
def topS (i : Nat) : Stmt := PySem.Challenge.pw_parksums_k32_whole_changes.main.body.getD i (.Pass ⟨0, 0, 0, 0⟩)
abbrev s_is_in : Stmt := topS 10
theorem sc_is_in : FnScope ["value", "least", "most"] ["value", "least", "most"] (defScope s_is_in) := ⟨rfl, rfl, rfl, by decide +kernel, rfl, by decide +kernel, by decide +kernel⟩
abbrev s_need_size : Stmt := topS 11
theorem sc_need_size : FnScope ["size"] ["size"] (defScope s_need_size) := ⟨rfl, rfl, rfl, by decide +kernel, rfl, by decide +kernel, by decide +kernel⟩
abbrev s_are_wishes : Stmt := topS 12
theorem sc_are_wishes : FnScope ["size", "value", "one"] ["size", "value"] (defScope s_are_wishes) := ⟨rfl, rfl, rfl, by decide +kernel, rfl, by decide +kernel, by decide +kernel⟩
abbrev s_need_wishes : Stmt := topS 13
theorem sc_need_wishes : FnScope ["size", "wishes"] ["size", "wishes"] (defScope s_need_wishes) := ⟨rfl, rfl, rfl, by decide +kernel, rfl, by decide +kernel, by decide +kernel⟩
abbrev s_is_set : Stmt := topS 14
theorem sc_is_set : FnScope ["size", "value", "k", "one"] ["size", "value"] (defScope s_is_set) := ⟨rfl, rfl, rfl, by decide +kernel, rfl, by decide +kernel, by decide +kernel⟩
abbrev s_spots_of : Stmt := topS 15
theorem sc_spots_of : FnScope ["size", "wishes", "found", "taken", "wish"] ["size", "wishes"] (defScope s_spots_of) := ⟨rfl, rfl, rfl, by decide +kernel, rfl, by decide +kernel, by decide +kernel⟩
abbrev s_everything : Stmt := topS 16
theorem sc_everything : FnScope ["size"] ["size"] (defScope s_everything) := ⟨rfl, rfl, rfl, by decide +kernel, rfl, by decide +kernel, by decide +kernel⟩
abbrev s_blocks_of : Stmt := topS 18
theorem sc_blocks_of : FnScope ["size", "one", "found", "place", "length"] ["size", "one"] (defScope s_blocks_of) := ⟨rfl, rfl, rfl, by decide +kernel, rfl, by decide +kernel, by decide +kernel⟩
abbrev s_block_places : Stmt := topS 20
theorem sc_block_places : FnScope ["size", "whole", "first", "length", "k"] ["size", "whole"] (defScope s_block_places) := ⟨rfl, rfl, rfl, by decide +kernel, rfl, by decide +kernel, by decide +kernel⟩
abbrev s_ratio : Stmt := topS 22
theorem sc_ratio : FnScope ["top", "bottom", "common"] ["top", "bottom"] (defScope s_ratio) := ⟨rfl, rfl, rfl, by decide +kernel, rfl, by decide +kernel, by decide +kernel⟩
abbrev s_plus : Stmt := topS 23
theorem sc_plus : FnScope ["one", "other"] ["one", "other"] (defScope s_plus) := ⟨rfl, rfl, rfl, by decide +kernel, rfl, by decide +kernel, by decide +kernel⟩
abbrev s_by : Stmt := topS 24
theorem sc_by : FnScope ["one", "other"] ["one", "other"] (defScope s_by) := ⟨rfl, rfl, rfl, by decide +kernel, rfl, by decide +kernel, by decide +kernel⟩
abbrev s_sum_of : Stmt := topS 25
theorem sc_sum_of : FnScope ["some", "found", "one"] ["some"] (defScope s_sum_of) := ⟨rfl, rfl, rfl, by decide +kernel, rfl, by decide +kernel, by decide +kernel⟩
abbrev s_need_index : Stmt := topS 27
theorem sc_need_index : FnScope ["size", "wishes", "index"] ["size", "wishes", "index"] (defScope s_need_index) := ⟨rfl, rfl, rfl, by decide +kernel, rfl, by decide +kernel, by decide +kernel⟩
abbrev s_need_goal : Stmt := topS 29
theorem sc_need_goal : FnScope ["size", "wishes", "goal"] ["size", "wishes", "goal"] (defScope s_need_goal) := ⟨rfl, rfl, rfl, by decide +kernel, rfl, by decide +kernel, by decide +kernel⟩
abbrev s_is_kept : Stmt := topS 30
theorem sc_is_kept : FnScope ["size", "wishes", "goal", "kept", "places", "ranks", "index", "at", "rank"] ["size", "wishes", "goal", "kept"] (defScope s_is_kept) := ⟨rfl, rfl, rfl, by decide +kernel, rfl, by decide +kernel, by decide +kernel⟩
abbrev s_kept_of : Stmt := topS 31
theorem sc_kept_of : FnScope ["size", "wishes", "goal", "found", "order", "places", "rank", "index"] ["size", "wishes", "goal"] (defScope s_kept_of) := ⟨rfl, rfl, rfl, by decide +kernel, rfl, by decide +kernel, by decide +kernel⟩
abbrev s_ranked : Stmt := topS 32
theorem sc_ranked : FnScope ["places", "wishes", "index", "wish"] ["places", "wishes"] (defScope s_ranked) := ⟨rfl, rfl, rfl, by decide +kernel, rfl, by decide +kernel, by decide +kernel⟩
abbrev s_changed : Stmt := topS 33
theorem sc_changed : FnScope ["size", "wishes", "goal", "kept", "taken", "free", "found", "index", "place"] ["size", "wishes", "goal"] (defScope s_changed) := ⟨rfl, rfl, rfl, by decide +kernel, rfl, by decide +kernel, by decide +kernel⟩
abbrev s_fewest_changes : Stmt := topS 34
theorem sc_fewest_changes : FnScope ["size", "wishes", "goal"] ["size", "wishes", "goal"] (defScope s_fewest_changes) := ⟨rfl, rfl, rfl, by decide +kernel, rfl, by decide +kernel, by decide +kernel⟩
abbrev s_shows_changes : Stmt := topS 35
theorem sc_shows_changes : FnScope ["size", "wishes", "goal", "value", "least", "wish", "one", "other"] ["size", "wishes", "goal", "value"] (defScope s_shows_changes) := ⟨rfl, rfl, rfl, by decide +kernel, rfl, by decide +kernel, by decide +kernel⟩
abbrev s_spot_row : Stmt := topS 36
theorem sc_spot_row : FnScope ["size", "wishes", "index", "others", "found", "many", "rows", "turn", "before", "spot", "share", "more", "k", "later", "place"] ["size", "wishes", "index"] (defScope s_spot_row) := ⟨rfl, rfl, rfl, by decide +kernel, rfl, by decide +kernel, by decide +kernel⟩
abbrev s_orders : Stmt := topS 37
theorem sc_orders : FnScope ["many", "found", "k"] ["many"] (defScope s_orders) := ⟨rfl, rfl, rfl, by decide +kernel, rfl, by decide +kernel, by decide +kernel⟩
abbrev s_spot_chances : Stmt := topS 38
theorem sc_spot_chances : FnScope ["size", "wishes", "index"] ["size", "wishes", "index"] (defScope s_spot_chances) := ⟨rfl, rfl, rfl, by decide +kernel, rfl, by decide +kernel, by decide +kernel⟩
abbrev s_mean_walk_of : Stmt := topS 39
theorem sc_mean_walk_of : FnScope ["size", "wishes", "index", "some", "place"] ["size", "wishes", "index"] (defScope s_mean_walk_of) := ⟨rfl, rfl, rfl, by decide +kernel, rfl, by decide +kernel, by decide +kernel⟩
abbrev s_law_taken : Stmt := topS 41
theorem sc_law_taken : FnScope ["_law_row", "_law_many", "_law_found", "_law_cell"] ["_law_row", "_law_many"] (defScope s_law_taken) := ⟨rfl, rfl, rfl, by decide +kernel, rfl, by decide +kernel, by decide +kernel⟩
abbrev s_law_pick : Stmt := topS 42
theorem sc_law_pick : FnScope ["_law_row", "_law_things"] ["_law_row", "_law_things"] (defScope s_law_pick) := ⟨rfl, rfl, rfl, by decide +kernel, rfl, by decide +kernel, by decide +kernel⟩
abbrev s_law_alike : Stmt := topS 43
theorem sc_law_alike : FnScope ["_law_found", "_law_due", "_law_k"] ["_law_found", "_law_due"] (defScope s_law_alike) := ⟨rfl, rfl, rfl, by decide +kernel, rfl, by decide +kernel, by decide +kernel⟩
abbrev s_law_ratio : Stmt := topS 44
theorem sc_law_ratio : FnScope ["_law_top", "_law_bottom", "_law_one", "_law_other"] ["_law_top", "_law_bottom"] (defScope s_law_ratio) := ⟨rfl, rfl, rfl, by decide +kernel, rfl, by decide +kernel, by decide +kernel⟩
abbrev s_law_spots : Stmt := topS 50
theorem sc_law_spots : FnScope ["_law_size", "_law_wishes_here", "_law_found", "_law_wish"] ["_law_size", "_law_wishes_here"] (defScope s_law_spots) := ⟨rfl, rfl, rfl, by decide +kernel, rfl, by decide +kernel, by decide +kernel⟩
abbrev s_law_wishes : Stmt := topS 54
theorem sc_law_wishes : FnScope ["_law_row", "_law_size", "_law_near", "_law_many", "_law_k"] ["_law_row", "_law_size"] (defScope s_law_wishes) := ⟨rfl, rfl, rfl, by decide +kernel, rfl, by decide +kernel, by decide +kernel⟩
abbrev s_law_orders : Stmt := topS 55
theorem sc_law_orders : FnScope ["_law_some", "_law_found", "_law_k", "_law_rest"] ["_law_some"] (defScope s_law_orders) := ⟨rfl, rfl, rfl, by decide +kernel, rfl, by decide +kernel, by decide +kernel⟩
abbrev s_law : Stmt := topS 56
theorem sc_law : FnScope ["_law_script", "_law_row", "_law_size", "_law_wishes_here", "_law_goal", "_law_rows", "_law_least", "_law_wish", "_law_more", "_law_some", "_law_fits", "_law_good", "_law_found", "_law_base", "_law_values", "_law_k", "_law_value", "_law_due", "_law_counts", "_law_walk", "_law_orders_here", "_law_order", "_law_spot", "_law_j", "_law_count", "_law_place"] ["_law_script"] (defScope s_law) := ⟨rfl, rfl, rfl, by decide +kernel, rfl, by decide +kernel, by decide +kernel⟩
/-- the built-ins that the text calls by their own names, the module's constants -/
structure Blt (mg : Str → Option Value) : Prop where
  isinstance_ : mg "isinstance" = none
  len_ : mg "len" = none
  all_ : mg "all" = none
  any_ : mg "any" = none
  sorted_ : mg "sorted" = none
  min_ : mg "min" = none
  abs_ : mg "abs" = none
  int_ : mg "int" = none
  bool_ : mg "bool" = none
  tuple_ : mg "tuple" = none
  list_ : mg "list" = none
  str_ : mg "str" = none
  range_ : mg "range" = none
  enumerate_ : mg "enumerate" = none
  zip_ : mg "zip" = none
  gcd_ : mg "gcd" = some (.builtin "math.gcd")
  LEAST_SIZE : ∃ t, mg "LEAST_SIZE" = some (.int 2 t)
  MOST_SIZE : ∃ t, mg "MOST_SIZE" = some (.int 9 t)
end Tx
/-! rules whose reading names the written part K alone (for use within blocks) -/
namespace Rx
open PySem L2 PyProof.Rows
section
variable {X : Cx} (K : PySem.W.Frag)
theorem ixT (h : X.K = K := by rfl) : IxR X (rIxT K) := h ▸ ix_tup
theorem ixL (h : X.K = K := by rfl) : IxR X (rIxL K) := h ▸ ix_list
theorem inS (h : X.K = K := by rfl) : OpR X (compareOp .In) (rIn K false) := h ▸ op_in_seq
theorem niS (h : X.K = K := by rfl) : OpR X (compareOp .NotIn) (rIn K true) := h ▸ op_notIn_seq
def rLen (K : PySem.W.Frag) : List V → Hp → VK → Prop := fun xs H Q => ∃ p ys, xs = [.ref p] ∧ (SqL K H p ys ∨ SqT K H p ys) ∧ Q (.int ys.length) H
theorem lenK (h : X.K = K := by rfl) : CallR X (.builtin "len") (rLen K) := h ▸ call_len_seq
theorem idxK (h : X.K = K := by rfl) : MtR X "list.index" (rIndex K) := h ▸ mt_index
theorem slL (h : X.K = K := by rfl) : SlR X (rSlL K) := h ▸ sl_list
theorem slA (h : X.K = K := by rfl) : SlR X (rSlA K) := h ▸ sl_tupA
theorem catA (h : X.K = K := by rfl) : OpR X (binaryOp .Add) (rCatA K) := h ▸ op_catA
def rTupOf (K : PySem.W.Frag) : List V → Hp → VK → Prop := fun xs H Q => ∃ p ys, xs = [.ref p] ∧ ((SqL K H p ys ∧ ∀ l, H l = none → Q (.ref l) (upd H l (.tup ys))) ∨ (SqT K H p ys ∧ Q (.ref p) H))
theorem tupK (h : X.K = K := by rfl) : CallR X (.type "tuple") (rTupOf K) := h ▸ call_tuple_of
def rLstOf (K : PySem.W.Frag) : List V → Hp → VK → Prop := fun xs H Q => ∃ p ys, xs = [.ref p] ∧ (SqL K H p ys ∨ SqT K H p ys) ∧ ∀ l, H l = none → Q (.ref l) (upd H l (.lst ys))
theorem lstK (h : X.K = K := by rfl) : CallR X (.type "list") (rLstOf K) := h ▸ call_list_of
theorem srtI (h : X.K = K := by rfl) : CallR X (.builtin "sorted") (rSortedI K) := h ▸ cr_sortedI
theorem srtP (h : X.K = K := by rfl) : CallR X (.builtin "sorted") (rSortedP K) := h ▸ cr_sortedP
theorem isiK (h : X.K = K := by rfl) : CallR X (.builtin "isinstance") (rIsi K) := h ▸ call_isi
theorem isiT (h : X.K = K := by rfl) : CallR X (.builtin "isinstance") (rIsiT K) := h ▸ call_isiT
theorem eqD (hu : X.A.units + 64 < cLine) (h : X.K = K := by rfl) : OpR X (compareOp .Eq) (rEqD K) := h ▸ op_eqD hu
theorem neD (hu : X.A.units + 64 < cLine) (h : X.K = K := by rfl) : OpR X (compareOp .NotEq) (rNeD K) := h ▸ op_neD hu
theorem inD (hu : X.A.units + 65 < cLine) (h : X.K = K := by rfl) : OpR X (compareOp .In) (rInD K) := h ▸ op_inD hu
theorem niD (hu : X.A.units + 65 < cLine) (h : X.K = K := by rfl) : OpR X (compareOp .NotIn) (rNotInD K) := h ▸ op_notInD hu
theorem bm {o e : Expr} {es : List Expr} {to : TE} {t : TA} {name : Str} {apos cpos : Pos} {T id : String} {r : V → List V → Hp → VK → Prop} (pa : PlainAttrs T) (slot : Slot T name id) (hty : typeOf (.builtin id) = pure (.type "method_descriptor")) (hm : MtR X id r) (ho : PE X o to) (ha : PA X (e :: es) t)
    (h : X.K = K := by rfl) (h1 : attributeBase o name X.env (eval o X.env) = eval o X.env := by rfl)
    (h2 : ((backTo cpos (starEach (e :: es) X.env)).all (fun x => !x.1) && (backToKw cpos (keywordEach [] X.env)).all (fun x => x.1.isSome) && decide ((e :: es).length + ([] : List Keyword).length + (if ([] : List Keyword).isEmpty then 0 else 1) < 30)) = true := by rfl)
    (h3 : (apos.endLine == cpos.line) = true := by rfl) (h4 : starEach (e :: es) X.env = (false, eval e X.env) :: starEach es X.env := by rfl) (h5 : (backTo cpos (starEach es X.env)).any (·.1) = false := by rfl) :
    PE X (.Call (.Attribute o name apos) (e :: es) [] cpos) (tBM K T r to t) := h ▸ pe_bm pa slot hty hm ho ha h1 h2 h3 h4 h5
theorem piL {tg l : Expr} {tl : TE} (hl : PE X l tl) (h : X.K = K := by rfl) : PI X tg l (iList K tl) := h ▸ pi_list hl
theorem piT {tg l : Expr} {tl : TE} (hl : PE X l tl) (h : X.K = K := by rfl) : PI X tg l (iTup K tl) := h ▸ pi_tup hl
theorem piE {e : Expr} {ta : TA} {p pos tpos : Pos} {elts : List Expr} {kk : Nat} (hg : Gl X "enumerate") (hm : X.mg "enumerate" = none) (ha : PA X [e] ta) (h : X.K = K := by rfl) (hs : starEach [e] X.env = [(false, eval e X.env)] := by rfl) :
    PI X (.Tuple elts kk tpos) (.Call (.Name "enumerate" p) [e] [] pos) (iEnum K ta) := h ▸ pi_enum hg hm ha hs
theorem piZ {e e2 : Expr} {ta : TA} {p pos tpos : Pos} {elts : List Expr} {kk : Nat} (hg : Gl X "zip") (hm : X.mg "zip" = none) (ha : PA X [e, e2] ta) (h : X.K = K := by rfl)
    (hs : starEach [e, e2] X.env = (false, eval e X.env) :: starEach [e2] X.env := by rfl) (hpl : (backTo pos (starEach [e2] X.env)).any (·.1) = false := by rfl) :
    PI X (.Tuple elts kk tpos) (.Call (.Name "zip" p) [e, e2] [] pos) (RZ.iZipA K ta) := h ▸ RZ.pi_zipA hg hm ha hs hpl
theorem pgT {es : List Expr} {k : Nat} {t : TGs} {n : Nat} {pos : Pos} (hc : X.calm = true) (ht : PGs X es t) (h : X.K = K := by rfl)
    (hn : (assignEach es X.env).length = n := by rfl) (hst : (assignEach es X.env).findIdx? (·.1) = none := by rfl) : PG X (.Tuple es k pos) (gTup K n t) := h ▸ pg_tup hc ht hn hst
end
end Rx
/-! enumerate over a tuple -/
namespace En
open PySem PySem.Spec PyProof.Rows L2
open AutoSeq1 (wpAny_loadPart')
theorem new_meets (l : Addr) (items : Array Value) (n : Nat) (dct : Option Addr) (sl : Array (Option Value)) :
    Meets (Builtin.«enumerate.__new__» ⟨[.type "enumerate", .ref l], []⟩) (fun _ R s => s.heap.get? l = some { cls := .type "tuple", dict := dct, data := .seq items n, slots := sl } ∧
      R (.ok (.ret (.ref (s.heap.push { cls := .type "tuple_iterator", data := .fields #[.ref l, .int 0 0] }).objs.size)))
        { s with heap := (s.heap.push { cls := .type "tuple_iterator", data := .fields #[.ref l, .int 0 0] }).push { cls := .type "enumerate", data := .fields #[.none, .bool false, .ref s.heap.objs.size, rawInt 0, .none, .none] } }) :=
  .of_wp fun prog w A R s h => by
    obtain ⟨hp, gens, drn, tk, os⟩ := s
    obtain ⟨hl, h⟩ := h
    have hsub := sub_enumerate
    have hTup : Heap.IsTuple (Shared.heap ⟨hp, gens, drn, tk, os⟩) l items := ⟨_, hl, rfl, n, rfl⟩
    wp_walk using wpAny_loadPart' hl
    refine wpAny_stack_any fun stk => wpAny_pure ?_
    split
    · rename_i c _ _ _ _ _
      cases (c == Value.type "enumerate")
      · wp_walk using wpAny_loadPart' hl, wpAny_pyIter_tuple hTup
        exact ⟨_, rfl, h⟩
      · wp_walk using wpAny_loadPart' hl, wpAny_pyIter_tuple hTup
        exact ⟨_, rfl, h⟩
    · wp_walk using wpAny_loadPart' hl, wpAny_pyIter_tuple hTup
      exact ⟨_, rfl, h⟩
section
variable {prog : Program} {w : World} {A : Around} {E : Value → Shared → Prop} {s : Shared}
theorem call_enumT {l : Addr} {items : Array Value} {Q : Value → Shared → Prop} (hL : s.heap.IsTuple l items)
    (h : ∀ h', IsEnum h' (s.heap.objs.size + 1) s.heap.objs.size 0 .none → h'.IsTupleIter s.heap.objs.size l 0 → h'.objs.size = s.heap.objs.size + 2 →
      (∀ b o, s.heap.get? b = some o → h'.get? b = some o) → Q (.ref (s.heap.objs.size + 1)) { s with heap := h' }) :
    wpAny (model prog w) A (call (.type "enumerate") [.ref l]) Q E s := by
  obtain ⟨⟨c, dct, dt, sl⟩, hl, hc, n, hd⟩ := hL
  replace hc : c = .type "tuple" := hc
  replace hd : dt = .seq items n := hd
  subst hc hd
  refine callType_new F.called_enumerate (by decide) (F.typeCall_enumerate_1 _) (F.newCall_enumerate_1 _) (fun ob => F.args_object_init_2 ob _) F.entry_enumerate_new
    (new_meets l items n dct sl) ⟨hl, ?_⟩
  have hz : (s.heap.push { cls := .type "tuple_iterator", data := .fields #[.ref l, .int 0 0] }).objs.size = s.heap.objs.size + 1 := Heap.size_push ..
  show _ ∧ _
  rw [hz]
  have he : IsEnum ((s.heap.push { cls := .type "tuple_iterator", data := .fields #[.ref l, .int 0 0] }).push
      { cls := .type "enumerate", data := .fields #[.none, .bool false, .ref s.heap.objs.size, rawInt 0, .none, .none] }) (s.heap.objs.size + 1) s.heap.objs.size 0 .none := by
    have q := Heap.get?_push_size (s.heap.push { cls := .type "tuple_iterator", data := .fields #[.ref l, .int 0 0] })
      (o := { cls := .type "enumerate", data := .fields #[.none, .bool false, .ref s.heap.objs.size, rawInt 0, .none, .none] }) rfl
    rw [hz] at q
    exact q
  exact ⟨⟨_, he, rfl⟩, h _ he ⟨_, Heap.get?_push_of_some _ (Heap.get?_push_size _ rfl), rfl, rfl⟩ (by rw [Heap.size_push, hz]) fun b o x => Heap.get?_push_of_some _ (Heap.get?_push_of_some _ x)⟩
end
/-- the tuple at a, each item in a new pair -/
def IteT (K : PySem.W.Frag) (a : Addr) : It :=
  ⟨fun i H => ∃ (xs : List V) (x : V), SqT K H a xs ∧ xs[i]? = some x, fun i H v H' => ∃ T x, v = .ref T ∧ H T = none ∧ H' = upd H T (.tup [.int (i : Nat), x]) ∧ ∀ xs, SqT K H a xs → xs[i]? = some x, fun i H => ∃ xs : List V, SqT K H a xs ∧ xs.length ≤ i⟩
theorem turn_enumT {P : Program} {w : World} {K : PySem.W.Frag} {elts : List Expr} {kk : Nat} {tpos : Pos} (a e it : Addr) :
    Turn P w K (.Tuple elts kk tpos) (IteT K a) [e, it] e (fun i h => (∃ old, IsEnum h e it ((i : Nat) : Int) old) ∧ h.IsTupleIter it a i ∧ e ≠ it) where
  mem := by simp
  obj := fun i h st b hb => by
    obtain ⟨⟨old, he⟩, ⟨o, ho, hc, hd⟩, _⟩ := st
    have e' : b = e ∨ b = it := by simpa using hb
    rcases e' with z | z
    · rw [z]; exact ⟨_, he, fun v q => nomatch q⟩
    · rw [z]; exact ⟨o, ho, fun v q => by rw [hd] at q; cases q⟩
  keep := fun i h h' st k => by
    obtain ⟨⟨old, he⟩, hi, hne⟩ := st
    exact ⟨⟨old, k e (by simp) _ he⟩, hi.at fun o q => k it (by simp) o q, hne⟩
  item := by
    intro X hP hw hK hc i pins s σ H E I hf st hg
    subst hP hw hK
    obtain ⟨⟨old, he⟩, hit, hne⟩ := st
    obtain ⟨xs, x, hq, hx⟩ := hg
    obtain ⟨its, rv, p, hz⟩ := I.tuple hq
    obtain ⟨u, hu, ru⟩ := rv.get hx
    have hel : e < s.heap.objs.size := Heap.lt_size he
    have hil : it < s.heap.objs.size := by
      obtain ⟨_, q, _⟩ := id hit
      exact Heap.lt_size q
    have pT : s.heap.IsTuple a its.toArray := p
    have hae : a ≠ e := fun z => by
      obtain ⟨o, ho, hcl, _⟩ := pT
      rw [z, show s.heap.get? e = _ from he] at ho
      rw [← Option.some.inj ho] at hcl
      exact absurd (Value.type.inj hcl) (by decide)
    have hai : a ≠ it := fun z => by
      obtain ⟨o, ho, hcl, _⟩ := pT
      obtain ⟨o2, ho2, hcl2, _⟩ := id hit
      rw [z, ho2] at ho
      rw [← Option.some.inj ho, hcl2] at hcl
      exact absurd (Value.type.inj hcl) (by decide)
    have hD := Draws.tuple (prog := X.prog) (w := X.w) (A := X.A.in1) (I.ok.hd hc) it a hai its.toArray
    have hil' : i < its.toArray.size := by
      have := (List.getElem?_eq_some_iff.mp hu).1
      simpa using this
    refine wpAny_pyNext_enum_itemD hD he ⟨hit, pT⟩ hil' hne (by simp [hne, hae.symm]) fun y h' tk hy ho hit' hT hsz hk => ?_
    obtain rfl : u = y := by
      have : its.toArray[i]? = some u := by simpa using hu
      rw [this] at hy
      exact Option.some.inj hy
    refine ⟨_, rfl, wpAny_letOwnedTupleGo_enum (s := { s with heap := h', toks := tk + 1 }) ho fun h'' he' sb => ?_⟩
    have hT2 : h''.get? s.heap.objs.size = some { cls := .type "tuple", data := .seq #[.int i tk, u] } := (sb.2 _ (Nat.ne_of_gt hel)).trans hT
    have new : ObjOk X.prog X.w (upd H s.heap.objs.size (.tup [.int (i : Nat), x])) h'' s.heap.objs.size (.tup [.int (i : Nat), x]) :=
      ⟨by show 2 ≤ sizeLine; decide, [.int i tk, u], .cons ⟨_, rfl⟩ (.cons ru .nil), ⟨_, hT2, rfl, _, rfl⟩⟩
    have I1 : Inv X pins σ (upd H s.heap.objs.size (.tup [.int (i : Nat), x])) { s with heap := h'', toks := tk + 1 } :=
      I.turnedNew (ch := [e, it]) (fun b ob hb q => (sb.2 b (fun z => hb (by simp [z]))).trans (hk b ob (fun z => hb (by simp [z])) (fun z => hb (by simp [z])) q)) hf (Nat.le_refl _) new
    refine ⟨.ref s.heap.objs.size, _, I1, rfl, ⟨_, x, rfl, I.hok.fresh (Nat.le_refl _), rfl, fun ys hy => by rw [I.tuple_inj hy hq]; exact hx⟩, ⟨⟨u, ?_⟩, hit'.1.at fun o q => (sb.2 it (Ne.symm hne)).trans q, hne⟩, fun b hb => ?_⟩
    · have e1 : ((i + 1 : Nat) : Int) = (i : Int) + 1 := by omega
      rw [e1]
      exact he'
    · have hb' : b < s.heap.objs.size := by
        have e' : b = e ∨ b = it := by simpa using hb
        rcases e' with z | z
        · rw [z]; exact hel
        · rw [z]; exact hil
      rw [upd_ne (Nat.ne_of_lt hb')]
      exact (hf b hb).1
  done := by
    intro X hP hw hK hc i pins s σ H E I hf st hg
    subst hP hw hK
    obtain ⟨⟨old, he⟩, hit, hne⟩ := st
    obtain ⟨xs, hq, hx⟩ := hg
    obtain ⟨its, rv, p, hz⟩ := I.tuple hq
    obtain ⟨f0, f1, f2, f3, f4, f5⟩ := hf it (by simp)
    have hl := rv.length
    have pT : s.heap.IsTuple a its.toArray := p
    have hT : s.TypeIs (.ref e) "enumerate" := ⟨_, he, rfl⟩
    unfold pyNext
    refine wpAny_bind (wpAny_attempt (wpAny_callSpecial?_slot (name := Str.ofString "__next__") hT F.slot_enumerate_next
      (wpAny_call_entry F.slot_enumerate_next hT F.entry_enumerate_next ?_ (F.args_enumerate_next_1 _))))
    show wpAny _ _ (field (.ref e) 2 >>= _) _ _ _
    refine wpAny_bind (wpAny_field he rfl (x := .ref it) rfl ?_)
    refine wpAny_bind (wpAny_nextOf_tuple_end (I.ok.hd hc) hit pT (by simp; omega) fun h' x he' hx' => ?_)
    obtain ⟨o, ho, hcl⟩ := hx'
    refine wpAny_bind (wpAny_isInstance (T := "StopIteration") (b := true) ⟨o, ho, hcl⟩ isSubtype_stop ?_)
    exact wpAny_pure ⟨rfl, I.turned (t' := s.toks) (fun b o hb q => he' b o hb q) f0 f1 f3 f4 f5⟩
  self := fun A i s Q E st h => let ⟨⟨_, he⟩, _⟩ := st; wpAny_pyIter_enum he h
def iEnT (K : PySem.W.Frag) (ta : TA) : TI := fun σ H R => ta σ H fun vs H1 => ∃ a xs, vs = [.ref a] ∧ SqT K H1 a xs ∧ R (IteT K a) H1
theorem pi_enT (K : PySem.W.Frag) {X : Cx} {e : Expr} {ta : TA} {p pos tpos : Pos} {elts : List Expr} {kk : Nat} (hg : Gl X "enumerate") (hm : X.mg "enumerate" = none) (ha : PA X [e] ta) (hK : X.K = K := by rfl) (hs : starEach [e] X.env = [(false, eval e X.env)] := by rfl) :
    PI X (.Tuple elts kk tpos) (.Call (.Name "enumerate" p) [e] [] pos) (iEnT K ta) := by
  subst hK
  refine ⟨fun pins s σ H R I h => ?_⟩
  refine Call_ (ld_blt I hg hm boot_enumerate (PyProof.Rows.callWith_type1 (thn (ha.run pos pins s σ H _ I h) fun us s1 ⟨vs, H1, I1, r1, q1⟩ => ?_) hs rfl))
  obtain ⟨a, xs, ex, hq, q⟩ := q1
  subst ex
  cases r1 with
  | cons r rr =>
    cases rr
    cases r
    obtain ⟨its, rv, p', hz⟩ := I1.tuple hq
    refine call_enumT (show s1.heap.IsTuple a its.toArray from p') fun h' he hit hsz hk => wpAny_pyIter_enum he ?_
    have I2 : Inv X pins σ H1 { s1 with heap := h' } := I1.kept (t' := s1.toks) hk
    refine ⟨s1.heap.objs.size + 1, [s1.heap.objs.size + 1, s1.heap.objs.size], _, _, H1, rfl, I2, turn_enumT a (s1.heap.objs.size + 1) s1.heap.objs.size, ⟨⟨.none, he⟩, hit, Nat.succ_ne_self _⟩, fun b hb => ?_, q⟩
    have e' : b = s1.heap.objs.size + 1 ∨ b = s1.heap.objs.size := by simpa using hb
    have hle : s1.heap.objs.size ≤ b := by
      rcases e' with z | z
      · rw [z]; exact Nat.le_add_right _ _
      · rw [z]; exact Nat.le_refl _
    exact I1.fpOk hle (I1.hok.fresh hle)
theorem walk_enT {K : PySem.W.Frag} {a : Addr} {xs : List V} : Walk (IteT K a) xs.length (fun H => SqT K H a xs) (YPair (fun i => some (.int (i : Nat))) (fun i => xs[i]?)) := by
  refine ⟨fun i _ hi q => ⟨xs, xs[i], q, by simp [hi]⟩, fun _ q => ⟨xs, q, Nat.le_refl _⟩, fun i H v H' _ q y => ?_⟩
  obtain ⟨T, x, e1, e2, e3, e4⟩ := y
  exact ⟨T, .int (i : Nat), x, e1, e2, e3, rfl, e4 xs q⟩
end En
/-! a dict display of one pair whose key is a tuple -/
namespace Dd
open PySem PySem.Spec PyProof.Rows L2
def tDisp1 (tk tv : TE) : TE := fun σ H Q => ∀ p, H p = none → tk σ (upd H p (.dT [])) fun x H1 => tv σ H1 fun v H2 => H2 p = some (.dT []) ∧ ∃ (b : Addr) (k : List L2.Key), x = .ref b ∧ H2 b = some (.tup (k.map kV)) ∧ Q (.ref p) (upd H2 p (.dT [(k, v)]))
theorem pe_disp1 {X : Cx} {pos : Pos} {ke ve : Expr} {tk tv : TE} (hu : X.A.units + 1 < cLine) (hk : PE X ke tk) (hv : PE X ve tv) : PE X (.Dict [some ke] [ve] pos) (tDisp1 tk tv) := by
  refine ⟨fun pins s σ H Q I q => ?_⟩
  have hn := I.hok.fresh (Nat.le_refl s.heap.objs.size)
  have I1 := I.laid (a := s.heap.objs.size) (o := .dT []) (h' := s.heap.push { cls := .type "dict", data := .dict #[] }) (t' := s.toks) (fun _ _ q => Heap.get?_push_of_some _ q) (Nat.le_refl _) (dt_empty s.heap I.big)
  refine wpAny_Dict_any (by rfl) (by rfl) (by simp) (by simp) ?_
  refine pairTrees_cons_walk (thn (hk.run pins _ σ _ _ I1 (q _ hn)) fun u s1 ⟨x, H1, J1, rx, q1⟩ => thn (hv.run pins s1 σ H1 _ J1 q1) fun r s2 ⟨y, H2, J2, ry, q2⟩ => pairTrees_nil_walk ?_)
  obtain ⟨hp, b, k, rfl, hb, q3⟩ := q2
  cases (show u = Value.ref b from rx)
  obtain ⟨z, hd, xs, rel, dd⟩ := dt_of J2.hok hp
  cases rel
  unfold storeAll
  rw [List.forIn_cons]
  refine wpAny_bind (wpAny_bind (wpAny_dictSet_heap (hsz := by simp) (knd := tupleKind (mixKind X.prog X.w)) (show X.A.units < cLine by omega) (key_of J2.hok hb) dd fun h' dd' hs => wpAny_pure ?_))
  dsimp only
  rw [List.forIn_nil]
  refine wpAny_pure ?_
  have rel' : KT H2 [(k, y)] (storedH [] k b r) := KT.put (kvs := []) (xs := []) (Paired.nil) k hb ry
  obtain ⟨o, es, ep, ho, h2, h3, h4, _, h5⟩ := dd'
  refine ⟨.ref s.heap.objs.size, upd H2 s.heap.objs.size (.dT [(k, y)]), d_write (ob := .dT [(k, y)]) J2 (by rw [hp]; exact True.intro) hs ⟨o, ho⟩ ⟨by simp; decide, hd, _, rel'.keeps fun c ys ec => ?_, o, es, ep, ho, h2, h3, h4, h5⟩, rfl, q3⟩
  rw [upd_ne (ne_of ec hp (fun z => nomatch z))]
  exact ec
end Dd
/-! a tuple backwards: t[::-1] -/
namespace Rv
open PySem PySem.Spec PyProof.Rows L2 HT
theorem adj_rev (n : Nat) : Builtin.Slice.sliceAdjust none none (-1) (n : Int) = ((n : Int) - 1, -1) := by
  unfold Builtin.Slice.sliceAdjust
  rfl
theorem plc_rev (n : Nat) : Builtin.Slice.slicePlaces ((n : Int) - 1) (-1) (-1) = n := by
  unfold Builtin.Slice.slicePlaces
  rw [if_neg (by decide)]
  by_cases h : n = 0
  · subst h
    rfl
  · rw [if_pos (by omega), show (-(-1) : Int) = 1 by decide, Int.ediv_one]
    omega
theorem fm_congr {α β : Type} {f g : α → Option β} : ∀ {l : List α}, (∀ x ∈ l, f x = g x) → l.filterMap f = l.filterMap g
  | [], _ => rfl
  | x :: l, h => by
    rw [List.filterMap_cons, List.filterMap_cons, h x List.mem_cons_self, fm_congr (fun y hy => h y (List.mem_cons_of_mem _ hy))]
theorem pick_rev (xs : Array Value) : ((List.range xs.size).filterMap fun (m : Nat) => xs[((xs.size : Int) - 1 + (m : Int) * (-1)).toNat]?).toArray = xs.toList.reverse.toArray := by
  have e : ((List.range xs.size).filterMap fun (m : Nat) => xs[((xs.size : Int) - 1 + (m : Int) * (-1)).toNat]?) = ((List.range xs.size).map fun k => xs.size - 1 - k).filterMap (xs[·]?) := by
    rw [List.filterMap_map]
    refine fm_congr (fun m hm => ?_)
    have := List.mem_range.mp hm
    show xs[((xs.size : Int) - 1 + (m : Int) * (-1)).toNat]? = xs[xs.size - 1 - m]?
    rw [show ((xs.size : Int) - 1 + (m : Int) * (-1)).toNat = xs.size - 1 - m by omega]
  rw [e, PySem.W.krv_range, List.filterMap_reverse, PySem.W.krv_all]
section
variable {prog : Program} {w : World} {A : Around} {E : Value → Shared → Prop} {s : Shared}
theorem app_rev {sl : Addr} {vl vu vs : Value} {n : Nat} {Q : Int × Int × Nat → Shared → Prop} (hs : s.heap.IsSliceOf sl vl vu vs) (pl : IsPart vl none) (pu : IsPart vu none) (ps : IsPart vs (some (-1)))
    (h : Q ((n : Int) - 1, -1, n) s) : wpAny (model prog w) A (Builtin.Slice.sliceApplied (.ref sl) (pure (n : Int))) Q E s := by
  obtain ⟨os, hos, hcs, hds⟩ := id hs
  unfold Builtin.Slice.sliceApplied Builtin.Slice.sliceFields
  refine wpAny_bind (wpAny_bind (wpAny_field hos hds (x := vl) rfl (wpAny_bind (wpAny_field hos hds (x := vu) rfl (wpAny_bind (wpAny_field hos hds (x := vs) rfl (wpAny_pure ?_)))))))
  refine wpAny_bind (slicePart_ ps ?_)
  show wpAny _ _ (if ((-1 : Int) == 0) = true then _ else _) _ _ s
  rw [if_neg (by decide)]
  refine wpAny_bind (slicePart_ pl (wpAny_bind (slicePart_ pu (wpAny_bind (wpAny_pure ?_)))))
  show wpAny _ _ (match Builtin.Slice.sliceAdjust none none (-1) (n : Int) with | (lo, hi) => pure (lo, (-1 : Int), Builtin.Slice.slicePlaces lo hi (-1))) _ _ s
  rw [adj_rev n]
  show wpAny _ _ (pure ((n : Int) - 1, (-1 : Int), Builtin.Slice.slicePlaces ((n : Int) - 1) (-1) (-1))) _ _ s
  rw [plc_rev]
  exact wpAny_pure h
theorem get_rev {t sl : Addr} {items : Array Value} {vl vu vs : Value} {Q : Value → Shared → Prop} (ht : IsTup s.heap t items) (hs : s.heap.IsSliceOf sl vl vu vs) (pl : IsPart vl none) (pu : IsPart vu none) (ps : IsPart vs (some (-1)))
    (h : Q (.ref s.heap.objs.size) { s with heap := s.heap.push { cls := .type "tuple", data := .seq items.toList.reverse.toArray } }) (hsz : items.size ≤ sizeLine) : wpAny (model prog w) A (getItem (.ref t) (.ref sl)) Q E s := by
  have htake : sizeOk (.seq items.toList.reverse.toArray) := by
    show items.toList.reverse.toArray.size ≤ sizeLine
    rw [List.size_toArray, List.length_reverse, Array.length_toList]
    exact hsz
  obtain ⟨os, hos, hcs, hds⟩ := id hs
  have hTs : s.TypeIs (.ref sl) "slice" := ⟨os, hos, hcs⟩
  unfold getItem
  try with_reducible refine wpAny_holding ?_
  first | refine wpAny_bind (wpAny_pure ?_) | skip
  refine wpAny_bind (wpAny_sequenceKey ht.typeIs (by decide) ?_)
  refine wpAny_bind (wpAny_callSpecial?_slot (name := Str.ofString "__getitem__") ht.typeIs PyProof.Rows.slot_tuple_getitem
    (wpAny_call_entry PyProof.Rows.slot_tuple_getitem ht.typeIs entry_tuple_getitem ?_ (args_tuple_getitem _ _)))
  show wpAny _ _ (Builtin.Tuple.tupleItemsOf (.ref t) >>= _) _ _ s
  refine wpAny_bind (tupleItemsOf_ ht ?_)
  refine wpAny_bind (wpAny_typeOf hTs ?_)
  rw [if_pos (by decide)]
  refine wpAny_bind (app_rev hs pl pu ps ?_)
  have hno : ¬ ((((items.size : Int) - 1) == 0 && (-1 : Int) == 1 && items.size == items.size) = true) := by
    intro q
    rw [Bool.and_eq_true, Bool.and_eq_true] at q
    exact absurd q.1.2 (by decide)
  show wpAny _ _ (if (((items.size : Int) - 1) == 0 && (-1 : Int) == 1 && items.size == items.size) = true then _ else _) _ _ s
  rw [if_neg hno, pick_rev]
  first
    | exact wpAny_bind (m := Builtin.Tuple.tupleExact _) (wpAny_newObj_type (wpAny_pure ⟨_, rfl, wpAny_pure h⟩) htake)
    | exact wpAny_bind (m := Builtin.Tuple.tupleExact _) (wpAny_newObj_type (wpAny_bind (wpAny_pure (wpAny_pure ⟨_, rfl, wpAny_pure h⟩))) htake)
    | exact wpAny_bind (wpAny_bind (m := Builtin.Tuple.tupleExact _) (wpAny_newObj_type (wpAny_pure (wpAny_pure ⟨_, rfl, wpAny_pure h⟩)) htake))
    | exact wpAny_bind (wpAny_bind (m := Builtin.Tuple.tupleExact _) (wpAny_newObj_type (wpAny_pure ⟨_, rfl, wpAny_pure h⟩) htake))
end
def tRevT (K : PySem.W.Frag) (te : TE) : TE := fun σ H Q => te σ H fun x H1 => ∃ a xs, x = .ref a ∧ SqT K H1 a xs ∧ ∀ p, H1 p = none → Q (.ref p) (upd H1 p (.tup xs.reverse))
theorem pe_revT (K : PySem.W.Frag) {X : Cx} {e : Expr} {te : TE} {k : Nat} {p1 p2 p3 pos : Pos} (he : PE X e te) (hK : X.K = K := by rfl) : PE X (.Subscript e (.Slice none none (some (.UnaryOp .USub (.Constant (.int 1) k p1) p2)) p3) pos) (tRevT K te) := by
  subst hK
  refine ⟨fun pins s σ H Q I h => ?_⟩
  refine Subscript_ (thn (he.run pins s σ H _ I h) fun v s1 ⟨x, H1, I1, r1, q1⟩ => ?_)
  obtain ⟨a, xs, ex, hx, q⟩ := q1
  subst ex
  cases r1
  have hst : PO X (some (.UnaryOp .USub (.Constant (.int 1) k p1) p2)) (tPart (tUn (rU fun i => .int (-i)) (tC (.int 1)))) := po_some (pe_un un_neg pe_int)
  refine wpAny_Slice (thn (po_none.run pins s1 σ H1 (fun o H2 => o = none ∧ H2 = H1) I1 ⟨rfl, rfl⟩) fun vl s2 ⟨l, H2, I2, pl, el, e2⟩ => ?_)
  subst el e2
  refine thn (po_none.run pins s2 σ H2 (fun o H3 => o = none ∧ H3 = H2) I2 ⟨rfl, rfl⟩) fun vu s3 ⟨u, H3, I3, pu, eu, e3⟩ => ?_
  subst eu e3
  refine thn (hst.run pins s3 σ H3 (fun o H4 => o = some (-1) ∧ H4 = H3) I3 ⟨1, rfl, -1, rfl, rfl, rfl⟩) fun vs s4 ⟨o, H4, I4, ps, eo, e4⟩ => ?_
  subst eo e4
  have I5 : Inv X pins σ H4 { s4 with heap := s4.heap.push { cls := .type "slice", data := .fields #[vl, vu, vs] } } := I4.kept (t' := s4.toks) fun b ob q => Heap.get?_push_of_some _ q
  obtain ⟨its, r, ht, hz⟩ := I5.tuple hx
  have hlen := r.length
  show wpAny (model X.prog X.w) X.A (subscriptTail e (.Slice none none (some (.UnaryOp .USub (.Constant (.int 1) k p1) p2)) p3) (.ref a) (.ref s4.heap.objs.size)) (EP X pins σ Q) X.xe { s4 with heap := s4.heap.push { cls := .type "slice", data := .fields #[vl, vu, vs] } }
  refine tail_any (ops := [.ref a, .ref s4.heap.objs.size]) ht.typeIs (PyProof.Rows.slot_tuple_getitem.lookup) ?_ (by with_unfolding_all rfl)
  refine get_rev ht (Heap.IsSliceOf.new _ vl vu vs) pl pu ps ?_ (by rw [List.size_toArray]; omega)
  refine ⟨.ref _, _, I5.laid (t' := s4.toks) (o := .tup xs.reverse) (fun b ob q => Heap.get?_push_of_some _ q) (Nat.le_refl _) ?_, rfl, q _ (I5.hok.fresh (Nat.le_refl _))⟩
  refine ⟨by rw [List.length_reverse]; exact hz, _, r.reverse, ?_⟩
  exact IsTup.new _ _
end Rv
namespace Px
open PySem L2 PyProof.Rows Kx Tx

section
variable {P : Program} {w : World} {K : PySem.W.Frag} {mg : Str → Option Value} {base : Heap}
/-- a def that may be called by its name: its promise -/
structure Ca (P : Program) (w : World) (K : PySem.W.Frag) (mg : Str → Option Value) (base : Heap) (k : Nat) (x : Str) (sp : Sp) : Prop where
  ex : ∃ (f : Addr) (fd : FuncData) (ps : List Str), FnOk P w K mg base CX0 k f fd ps sp ∧ mg x = some (.ref f) ∧ PySem.W.keepIn K (.ref f) = true ∧ Binds K fd ps []
theorem pe_ca {X : Cx} {k j : Nat} {x : Str} {sp : Sp} {p pos : Pos} {e : Expr} {es : List Expr} {t : TA} (c : Ca X.prog X.w X.K X.mg X.base k x sp) (hr : Room j X.A) (hk : k ≤ j) (hg : Gl X x) (ha : PA X (e :: es) t)
    (h1 : (x == ("__debug__" : Str)) = false := by decide) (h2 : starEach (e :: es) X.env = (false, eval e X.env) :: starEach es X.env := by rfl) (h3 : (backTo pos (starEach es X.env)).any (·.1) = false := by rfl) :
    PE X (.Call (.Name x p) (e :: es) [] pos) (tCall sp [] E0 t) := by
  obtain ⟨f, fd, ps, F, hm, kp, b⟩ := c.ex
  exact pe_call F (hr.mono hk) hg hm kp b .nil pass0 ha h1 h2 h3
/-- a def of the text: it stands, it is bound to its name, it takes its parameters -/
structure D0 (K : PySem.W.Frag) (mg : Str → Option Value) (x : Str) (st : Stmt) (ps : List Str) : Prop where
  ex : ∃ (f : Addr) (fd : FuncData), Fun K x x st f fd ∧ mg x = some (.ref f) ∧ Binds K fd ps []
theorem D0.cal {x : Str} {st : Stmt} {N ps : List Str} {k : Nat} {sp : Sp} (D : D0 K mg x st ps) (S : FnScope N ps (defScope st)) (len : ∀ vs H Q E, sp vs H Q E → vs.length = ps.length)
    (body : ∀ (f : Addr) (cdv : Value) (A : Around) (outer : List Env) (s : Shared) (H : Hp) (vs : List V) (Q : VK) (E : XK), Room k (A.deeper (envOfC x (defScope st) s.heap.objs.size f cdv)) → sp vs H Q E →
      ∃ t, PSs (cxOf CX0 P w K mg base N x (defScope st) f cdv A outer s H E).nox (defBody st) t ∧ t { nx := fun _ H' => Q .non H', rt := Q } (start N vs) H) : Ca P w K mg base (k + 1) x sp := by
  obtain ⟨f, fd, F, g, b⟩ := D.ex
  exact ⟨f, fd, ps, F.ok S len (fun cdv A outer s H vs Q E hr h => body f cdv A outer s H vs Q E hr h), g, F.kp, b⟩
/-- a def that holds generator expressions: its code object at c, the table of it at P -/
structure D1 (K : PySem.W.Frag) (mg : Str → Option Value) (x : Str) (st : Stmt) (ps : List Str) (c : Addr) : Prop where
  ex : ∃ (f : Addr) (oc : Value) (od : Option Addr) (kV doc pm : Value) (an : Option Addr) (ct : Value) (osl : Array (Option Value)),
    K.lookup f = some ⟨oc, od, .func (PySem.W.fnOf x x (defArgs st) (defBody st) (defScope st) .none kV doc pm an (.ref c) ct), osl⟩ ∧ PySem.W.codeIn K (.ref c) x = true ∧ PySem.W.keepIn K (.ref f) = true ∧
    mg x = some (.ref f) ∧ Binds K (PySem.W.fnOf x x (defArgs st) (defBody st) (defScope st) .none kV doc pm an (.ref c) ct) ps []
theorem D1.cal {x : Str} {st : Stmt} {N ps : List Str} {k : Nat} {sp : Sp} {c : Addr} (D : D1 K mg x st ps c) (S : FnScope N ps (defScope st)) (len : ∀ vs H Q E, sp vs H Q E → vs.length = ps.length)
    (body : ∀ (f : Addr) (A : Around) (outer : List Env) (s : Shared) (H : Hp) (vs : List V) (Q : VK) (E : XK), Room k (A.deeper (envOfC x (defScope st) s.heap.objs.size f (.ref c))) → sp vs H Q E →
      ∃ t, PSs (cxOf CX0 P w K mg base N x (defScope st) f (.ref c) A outer s H E).nox (defBody st) t ∧ t { nx := fun _ H' => Q .non H', rt := Q } (start N vs) H) : Ca P w K mg base (k + 1) x sp := by
  obtain ⟨f, oc, od, kV, doc, pm, an, ct, osl, lk, hcd, kp, g, b⟩ := D.ex
  refine ⟨f, _, ps, fn_of lk hcd S len (fun A outer s H vs Q E hr h => ?_), g, kp, b⟩
  obtain ⟨t, ht, q⟩ := body f A outer s H vs Q E hr h
  exact ⟨t, ht.nox, q⟩

/-! ### is_in -/
def sp_is_in : Sp := fun vs H Q _ => ∃ (v : V) (lo hi : Int), vs = [v, .int lo, .int hi] ∧
  ((∃ i, v = .int i ∧ Q (.bl (decide (lo ≤ i) && decide (i ≤ hi))) H) ∨ (∃ b, v = .bl b ∧ Q (.bl false) H))
theorem c_is_in (D : D0 K mg "is_in" s_is_in ["value", "least", "most"]) (T : Blt mg) : Ca P w K mg base 1 "is_in" sp_is_in := by
  refine D.cal sc_is_in (fun vs H Q E h => ?_) (fun f cdv A outer s H vs Q E hr h => ?_)
  · obtain ⟨v, lo, hi, rfl, _⟩ := h
    rfl
  · obtain ⟨v, lo, hi, rfl, h⟩ := h
    refine ⟨_, (pss_one (ps_ret (pe_and (pe_callB call_isi (by rfl) T.isinstance_ (by decide +kernel) (pa_cons (pv 0) (pa_cons (pe_bltn (v := .ty "int") (by rfl) T.int_ (by decide +kernel) rfl) pa_nil))) (pe_and (pe_not (pe_callB call_isi (by rfl) T.isinstance_ (by decide +kernel) (pa_cons (pv 0) (pa_cons (pe_bltn (v := .ty "bool") (by rfl) T.bool_ (by decide +kernel) rfl) pa_nil)))) (pe_one (pe_chain op_le op_le (pv 1) (pv 0) (pv 2))))))), ?_⟩
    rcases h with ⟨i, rfl, q⟩ | ⟨b, rfl, q⟩
    · refine ⟨_, rfl, _, _, _, _, true, rfl, .ty "int", .base (.int i), kit_ty (by decide +kernel), true, rfl, iteT ?_⟩
      refine ⟨_, rfl, _, _, _, _, false, rfl, .ty "bool", .base (.int i), kit_ty (by decide +kernel), false, rfl, true, rfl, iteT ?_⟩
      refine ⟨_, rfl, _, rfl, lo, i, rfl, rfl, decide (lo ≤ i), rfl, ?_⟩
      by_cases h1 : lo ≤ i
      · rw [decide_eq_true h1]
        refine iteT ⟨_, rfl, i, hi, rfl, rfl, ?_⟩
        rw [decide_eq_true h1, Bool.true_and] at q
        exact q
      · rw [decide_eq_false h1]
        refine iteF ?_
        rw [decide_eq_false h1, Bool.false_and] at q
        exact q
    · refine ⟨_, rfl, _, _, _, _, true, rfl, .ty "int", .base (.bl b), kit_ty (by decide +kernel), true, rfl, iteT ?_⟩
      refine ⟨_, rfl, _, _, _, _, true, rfl, .ty "bool", .base (.bl b), kit_ty (by decide +kernel), true, rfl, false, rfl, iteF ?_⟩
      exact q
end
end Px
namespace Px
open PySem L2 PyProof.Rows Kx Tx

theorem go_not {t : TT} {σ : L2.St} {H : Hp} {Q : Bool → Hp → Prop} (h : t σ H fun b H1 => Q (!b) H1) : tNot t σ H Q := h
theorem go_B {t : TE} {σ : L2.St} {H : Hp} {Q : Bool → Hp → Prop} (h : t σ H fun x H1 => ∃ k, x = .bl k ∧ Q k H1) : tB t σ H Q := h
theorem go_test {t : TE} {σ : L2.St} {H : Hp} {Q : Bool → Hp → Prop} (h : t σ H fun x H1 => ∃ k, x = .bl k ∧ Q k H1) : tTest t σ H Q := h
/-- all (sv := false), any (sv := true) over what walks: each truth by the place -/
theorem gen_walk {J : It} {n : Nat} {G : Hp → Prop} {Y : Nat → Hp → V → Hp → Prop} {Yv : Nat → V → Prop} {sv : Bool} {P : Addr} {te : TE} {j : Nat} {σ : L2.St} {H : Hp} {Q : VK} (f : Nat → Bool)
    (w : Walk J n G Y) (hy : ∀ i H x H', Y i H x H' → H' = H ∧ Yv i x) (hG : ∀ H', Ex H H' → G H') (hP : GxR.TabG H P)
    (el : ∀ i x H1, i < n → Yv i x → Ex H H1 → ∀ R : VK, (∀ H2, Ex H1 H2 → R (.bl (f i)) H2) → te ((wipe σ [j]).set j (some x)) H1 R)
    (kT : (∀ i, i < n → f i = !sv) → ∀ H2, Ex H H2 → Q (.bl (!sv)) H2) (kF : ∀ i, i < n → f i = sv → ∀ H2, Ex H H2 → Q (.bl sv) H2) :
    GxR.TabG H P ∧ ∀ H2, GxR.Tabbed P H H2 → ∃ W : Nat → Nat → Hp → Prop, (∃ m, W 0 m H2) ∧
      ∀ i m H, W i m H → (J.stop i H ∧ Q (.bl (!sv)) H) ∨ (J.go i H ∧ ∀ y H', J.yld i H y H' → te ((wipe σ [j]).set j (some y)) H' fun z H3 => ∃ b, z = .bl b ∧ ((b = sv → Q (.bl sv) H3) ∧ (b ≠ sv → ∃ m', m' < m ∧ W (i + 1) m' H3))) := by
  refine ⟨hP, fun H2 t => ⟨fun i m H' => m = n - i ∧ i ≤ n ∧ Ex H H' ∧ ∀ i', i' < i → f i' = !sv, ⟨n, by omega, Nat.zero_le _, Ex.tabbed hP t, fun i' h => absurd h (Nat.not_lt_zero _)⟩, ?_⟩⟩
  rintro i m H' ⟨rfl, hi, e, hf⟩
  by_cases hlt : i < n
  · refine .inr ⟨w.goes i H' hlt (hG H' e), fun y H3 hy' => ?_⟩
    obtain ⟨rfl, yv⟩ := hy i H' y H3 (w.yields i H' y H3 hlt (hG H' e) hy')
    refine el i y H3 hlt yv e _ fun H4 e4 => ⟨f i, rfl, fun hb => kF i hlt hb H4 (e.trans e4), fun hb => ⟨n - (i + 1), by omega, rfl, hlt, e.trans e4, fun i' h => ?_⟩⟩
    by_cases z : i' = i
    · subst z
      cases hfi : f i' <;> cases hs : sv <;> simp_all
    · exact hf i' (by omega)
  · have e0 : i = n := by omega
    subst e0
    exact .inl ⟨w.stops H' (hG H' e), kT hf H' e⟩
section
variable {K : PySem.W.Frag} {sv : Bool} {P : Addr} {te ta : TE} {j : Nat} {σ : L2.St} {H : Hp} {Q : VK} {a : Addr} {xs : List V}
theorem gen_tup {i0 : Nat} (f : Nat → Bool) (hv : σ[i0]? = some (some (.ref a))) (hx : SqT K H a xs) (hP : GxR.TabG H P)
    (el : ∀ i x H1, xs[i]? = some x → Ex H H1 → ∀ R : VK, (∀ H2, Ex H1 H2 → R (.bl (f i)) H2) → te ((wipe σ [j]).set j (some x)) H1 R)
    (kT : (∀ i, i < xs.length → f i = !sv) → ∀ H2, Ex H H2 → Q (.bl (!sv)) H2) (kF : ∀ i, i < xs.length → f i = sv → ∀ H2, Ex H H2 → Q (.bl sv) H2) : Gx.tGen sv P (iTup K (tVar i0)) te j σ H Q :=
  ⟨.ref a, hv, a, rfl, ⟨xs, hx⟩, gen_walk (Yv := fun i x => xs[i]? = some x) f (walk_tup (K := K) (a := a) (xs := xs)) (fun i H x H' y => y) (fun H' e => e.st hx) hP (fun i x H1 _ y e R k => el i x H1 y e R k) kT kF⟩
theorem gen_lst {i0 : Nat} (f : Nat → Bool) (hv : σ[i0]? = some (some (.ref a))) (hx : SqL K H a xs) (hP : GxR.TabG H P)
    (el : ∀ i x H1, xs[i]? = some x → Ex H H1 → ∀ R : VK, (∀ H2, Ex H1 H2 → R (.bl (f i)) H2) → te ((wipe σ [j]).set j (some x)) H1 R)
    (kT : (∀ i, i < xs.length → f i = !sv) → ∀ H2, Ex H H2 → Q (.bl (!sv)) H2) (kF : ∀ i, i < xs.length → f i = sv → ∀ H2, Ex H H2 → Q (.bl sv) H2) : Gx.tGen sv P (iList K (tVar i0)) te j σ H Q :=
  ⟨.ref a, hv, a, rfl, ⟨xs, hx⟩, gen_walk (Yv := fun i x => xs[i]? = some x) f (walk_list (K := K) (a := a) (xs := xs)) (fun i H x H' y => y) (fun H' e => e.sl hx) hP (fun i x H1 _ y e R k => el i x H1 y e R k) kT kF⟩
theorem gen_rng {n : Nat} (f : Nat → Bool) (hP : GxR.TabG H P)
    (el : ∀ i H1, i < n → Ex H H1 → ∀ R : VK, (∀ H2, Ex H1 H2 → R (.bl (f i)) H2) → te ((wipe σ [j]).set j (some (nI i))) H1 R)
    (kT : (∀ i, i < n → f i = !sv) → ∀ H2, Ex H H2 → Q (.bl (!sv)) H2) (kF : ∀ i, i < n → f i = sv → ∀ H2, Ex H H2 → Q (.bl sv) H2) :
    GxR.TabG H P ∧ ∀ H2, GxR.Tabbed P H H2 → ∃ W : Nat → Nat → Hp → Prop, (∃ m, W 0 m H2) ∧
      ∀ i m H, W i m H → ((Itr 0 n).stop i H ∧ Q (.bl (!sv)) H) ∨ ((Itr 0 n).go i H ∧ ∀ y H', (Itr 0 n).yld i H y H' → te ((wipe σ [j]).set j (some y)) H' fun z H3 => ∃ b, z = .bl b ∧ ((b = sv → Q (.bl sv) H3) ∧ (b ≠ sv → ∃ m', m' < m ∧ W (i + 1) m' H3))) :=
  gen_walk (Yv := fun i x => x = nI i) f (walk_range (lo := 0) (n := n)) (fun i H x H' y => ⟨y.1, by rw [y.2]; show V.int (0 + (i : Int)) = _; rw [Int.zero_add]; rfl⟩) (fun _ _ => True.intro) hP (fun i x H1 h y e R k => by subst y; exact el i H1 h e R k) kT kF
end

/-! ### need_size, are_wishes, need_wishes, is_set -/
section
variable {P : Program} {w : World} {K : PySem.W.Frag} {mg : Str → Option Value} {base : Heap}
def sp_need_size : Sp := fun vs H Q _ => ∃ n : Nat, vs = [nI n] ∧ 2 ≤ n ∧ n ≤ 9 ∧ Q .non H
theorem c_need_size (D : D0 K mg "need_size" s_need_size ["size"]) (T : Blt mg) (C_is_in : Ca P w K mg base 1 "is_in" sp_is_in) : Ca P w K mg base 2 "need_size" sp_need_size := by
  obtain ⟨t1, e1⟩ := T.LEAST_SIZE
  obtain ⟨t2, e2⟩ := T.MOST_SIZE
  refine D.cal sc_need_size (fun vs H Q E h => ?_) (fun f cdv A outer s H vs Q E hr h => ?_)
  · obtain ⟨n, rfl, _⟩ := h
    rfl
  · obtain ⟨n, rfl, h1, h2, q⟩ := h
    refine ⟨_, (pss_one (ps_if (pt_not (pt_val (pe_ca C_is_in hr (by decide) (by rfl) (pa_cons (pv 0) (pa_cons (pe_glob (v := .int 2) rfl e1 ⟨_, rfl⟩) (pa_cons (pe_glob (v := .int 9) rfl e2 ⟨_, rfl⟩) pa_nil))))))
        (pss_one ps_never) pss_nil)), ?_⟩
    refine ⟨_, rfl, _, 2, 9, rfl, .inl ⟨n, rfl, _, rfl, ?_⟩⟩
    rw [decide_eq_true (show (2 : Int) ≤ n by omega), decide_eq_true (show (n : Int) ≤ 9 by omega)]
    exact iteF q
/-- wishes, as a tuple -/
def sp_are_wishes (K : PySem.W.Frag) (Pt : Addr) : Sp := fun vs H Q _ => ∃ (n : Nat) (a : Addr) (ws : List Nat), vs = [nI n, .ref a] ∧ Rd H a (.tup (ws.map nI)) ∧ GxR.TabG H Pt ∧ ws.length ≤ n ∧ (∀ x ∈ ws, x < n) ∧ RetV (.bl true) H Q
theorem c_are_wishes {c Pt : Addr} (D : D1 K mg "are_wishes" s_are_wishes ["size", "value"] c) (TB : GxR.TabB base mg c Pt) (T : Blt mg) (C_is_in : Ca P w K mg base 1 "is_in" sp_is_in) : Ca P w K mg base 5 "are_wishes" (sp_are_wishes K Pt) := by
  refine D.cal sc_are_wishes (fun vs H Q E h => ?_) (fun f A outer s H vs Q E hr h => ?_)
  · obtain ⟨n, a, ws, rfl, _⟩ := h
    rfl
  · obtain ⟨n, a, ws, rfl, ha, hP, hl, hw, q⟩ := h
    have hS : SqT K H a (ws.map nI) := .inl ha
    refine ⟨_, (pss_one (ps_ret (pe_and (pe_callB call_isi (by rfl) T.isinstance_ (by decide +kernel) (pa_cons (pv 1) (pa_cons (pe_bltn (v := .ty "tuple") (by rfl) T.tuple_ (by decide +kernel) rfl) pa_nil))) (pe_and (pe_cmpR op_le (pe_callB call_len_seq (by rfl) T.len_ (by decide +kernel) (pa_cons (pv 1) pa_nil)) (pv 0) (nomark _)) (pe_one (Gx.pe_allG hr (by rfl) T.all_ TB rfl rfl sc_are_wishes.nd (pi_tup (pv 1)) (blkOk_by (own := [("one", 2)]) (N := ["size", "value", "one"]) (sc := defScope s_are_wishes) (by decide +kernel)) rfl (by first | exact Or.inl rfl | exact Or.inr rfl) (fun A' _ _ _ _ _ rm => (pe_ca C_is_in (rm _ hr) (by decide) (by rfl) (pa_cons (pv 2) (pa_cons pe_int (pa_cons (pe_op op_sub (pv 0) pe_int) pa_nil))))))))))), ?_⟩
    have ty : TyX K H (.ref a) (.type "tuple") := by
      rcases ha with ha | ⟨o, ha⟩
      · exact .base (.tup ha)
      · exact .fTuple ha
    refine ⟨_, rfl, _, _, _, _, true, rfl, .ty "tuple", ty, kit_ty (by decide +kernel), true, rfl, iteT ?_⟩
    refine ⟨_, rfl, ⟨a, _, rfl, .inr hS, _, rfl, _, _, rfl, rfl, true, ?_, iteT ?_⟩⟩
    · show V.bl (decide (_ ≤ _)) = _
      rw [List.length_map, decide_eq_true (show (ws.length : Int) ≤ n by omega)]
    · refine gen_tup (fun _ => true) rfl hS hP (fun i x H1 hi e R k => ?_) (fun _ H2 e => q H2 e) (fun i _ h => nomatch h)
      obtain ⟨v, hv, rfl⟩ := nI_get hi
      have hlt : v < n := hw v (List.mem_of_getElem? hv)
      refine ⟨_, rfl, _, rfl, _, _, rfl, rfl, nI v, 0, _, rfl, .inl ⟨v, rfl, ?_⟩⟩
      rw [decide_eq_true (show (0 : Int) ≤ v by omega), decide_eq_true (show (v : Int) ≤ n - 1 by omega)]
      exact k H1 (Ex.refl H1)
def sp_need_wishes (K : PySem.W.Frag) (Pt : Addr) : Sp := fun vs H Q _ => ∃ (n : Nat) (a : Addr) (ws : List Nat), vs = [nI n, .ref a] ∧ 2 ≤ n ∧ n ≤ 9 ∧ Rd H a (.tup (ws.map nI)) ∧ GxR.TabG H Pt ∧ ws.length ≤ n ∧ (∀ x ∈ ws, x < n) ∧ RetV .non H Q
theorem c_need_wishes {Pt : Addr} (D : D0 K mg "need_wishes" s_need_wishes ["size", "wishes"]) (T : Blt mg) (C_need_size : Ca P w K mg base 2 "need_size" sp_need_size) (C_are_wishes : Ca P w K mg base 5 "are_wishes" (sp_are_wishes K Pt)) :
    Ca P w K mg base 6 "need_wishes" (sp_need_wishes K Pt) := by
  refine D.cal sc_need_wishes (fun vs H Q E h => ?_) (fun f cdv A outer s H vs Q E hr h => ?_)
  · obtain ⟨n, a, ws, rfl, _⟩ := h
    rfl
  · obtain ⟨n, a, ws, rfl, h1, h2, ha, hP, hl, hw, q⟩ := h
    refine ⟨_, (pss_cons (ps_expr (pe_ca C_need_size hr (by decide) (by rfl) (pa_cons (pv 0) pa_nil)))
      (pss_one (ps_if (pt_not (pt_val (pe_ca C_are_wishes hr (by decide) (by rfl) (pa_cons (pv 0) (pa_cons (pv 1) pa_nil)))))
        (pss_one ps_never) pss_nil))), ?_⟩
    refine ⟨_, rfl, n, rfl, h1, h2, ?_⟩
    exact ⟨_, rfl, _, rfl, n, a, ws, rfl, ha, hP, hl, hw, fun H2 e => ⟨true, rfl, iteF (q H2 e)⟩⟩
/-- strictly rising -/
def Rise (G : List Nat) : Prop := ∀ i x y, G[i]? = some x → G[i + 1]? = some y → x < y
def sp_is_set (K : PySem.W.Frag) (Pt : Addr) : Sp := fun vs H Q _ => ∃ (n : Nat) (a : Addr) (ws : List Nat), vs = [nI n, .ref a] ∧ Rd H a (.tup (ws.map nI)) ∧ GxR.TabG H Pt ∧ ws.length ≤ 1000 ∧ Rise ws ∧ (∀ x ∈ ws, x < n) ∧ RetV (.bl true) H Q
theorem c_is_set {c Pt : Addr} (D : D1 K mg "is_set" s_is_set ["size", "value"] c) (TB : GxR.TabB base mg c Pt) (T : Blt mg) (C_is_in : Ca P w K mg base 1 "is_in" sp_is_in) : Ca P w K mg base 5 "is_set" (sp_is_set K Pt) := by
  refine D.cal sc_is_set (fun vs H Q E h => ?_) (fun f A outer s H vs Q E hr h => ?_)
  · obtain ⟨n, a, ws, rfl, _⟩ := h
    rfl
  · obtain ⟨n, a, ws, rfl, ha, hP, hl, hrise, hw, q⟩ := h
    have hS : SqT K H a (ws.map nI) := .inl ha
    refine ⟨_, (pss_cons (ps_if (PW.pt (pw_or (pt_not (pt_val (pe_callB call_isi (by rfl) T.isinstance_ (by decide +kernel) (pa_cons (pv 1) (pa_cons (pe_bltn (v := .ty "tuple") (by rfl) T.tuple_ (by decide +kernel) rfl) pa_nil))))) (pw_or1 (pt_not (pt_val (Gx.pe_allG hr (by rfl) T.all_ TB rfl rfl sc_is_set.nd (pi_tup (pv 1)) (blkOk_by (own := [("one", 3)]) (N := ["size", "value", "k", "one"]) (sc := defScope s_is_set) (by decide +kernel)) rfl (by first | exact Or.inl rfl | exact Or.inr rfl) (fun A' _ _ _ _ _ rm => (pe_ca C_is_in (rm _ hr) (by decide) (by rfl) (pa_cons (pv 3) (pa_cons pe_int (pa_cons (pe_op op_sub (pv 0) pe_int) pa_nil)))))))))))
        (pss_one (ps_ret pe_bl)) pss_nil)
      (pss_one (ps_ret (Gx.pe_allG hr (by rfl) T.all_ TB rfl rfl sc_is_set.nd (pi_range1 (by rfl) T.range_ (pa_cons (pe_op op_sub (pe_callB call_len_seq (by rfl) T.len_ (by decide +kernel) (pa_cons (pv 1) pa_nil)) pe_int) pa_nil)) (blkOk_by (own := [("k", 2)]) (N := ["size", "value", "k", "one"]) (sc := defScope s_is_set) (by decide +kernel)) rfl (by first | exact Or.inl rfl | exact Or.inr rfl) (fun A' _ _ _ _ _ rm => (pe_cmpR op_lt (pe_ix (Rx.ixT K) (pv 1) (pv 2) (fun _ _ => rfl)) (pe_ix (Rx.ixT K) (pv 1) (pe_op op_add (pv 2) pe_int) (fun _ _ => rfl)) (nomark _))))))), ?_⟩
    have ty : TyX K H (.ref a) (.type "tuple") := by
      rcases ha with ha | ⟨o, ha⟩
      · exact .base (.tup ha)
      · exact .fTuple ha
    refine ⟨_, rfl, _, _, _, _, true, rfl, .ty "tuple", ty, kit_ty (by decide +kernel), true, rfl, iteF ?_⟩
    refine go_not (go_B (gen_tup (K := K) (fun _ => true) rfl hS hP (fun i x H1 hi e R k => ?_) (fun _ H2 e => ?_) (fun i _ h => nomatch h)))
    · obtain ⟨v, hv, rfl⟩ := nI_get hi
      have hlt : v < n := hw v (List.mem_of_getElem? hv)
      refine ⟨_, rfl, _, rfl, _, _, rfl, rfl, nI v, 0, _, rfl, .inl ⟨v, rfl, ?_⟩⟩
      rw [decide_eq_true (show (0 : Int) ≤ v by omega), decide_eq_true (show (v : Int) ≤ n - 1 by omega)]
      exact k H1 (Ex.refl H1)
    · refine ⟨true, rfl, iteF ?_⟩
      refine ⟨_, rfl, a, _, rfl, .inr (e.st hS), _, _, rfl, rfl, _, rfl, by simp only [List.length_map]; omega, by simp only [List.length_map]; omega, ?_⟩
      have e1 : ((((ws.map nI).length : Nat) : Int) - 1).toNat = ws.length - 1 := by rw [List.length_map]; omega
      rw [e1]
      refine gen_rng (fun _ => true) (e.tab _ hP) (fun i H1 hi e1 R k => ?_) (fun _ H3 e3 => q H3 (e.trans e3)) (fun i _ h => nomatch h)
      obtain ⟨x, hx⟩ : ∃ x, ws[i]? = some x := ⟨ws[i], List.getElem?_eq_getElem (by omega)⟩
      obtain ⟨y, hy⟩ : ∃ y, ws[i + 1]? = some y := ⟨ws[i + 1], List.getElem?_eq_getElem (by omega)⟩
      have hS1 : SqT K H1 a (ws.map nI) := (e.trans e1).st hS
      have hlt := hrise i x y hx hy
      refine ⟨_, rfl, _, rfl, a, _, i, nI x, rfl, rfl, hS1, atI_nat (get_nI hx), _, rfl, _, rfl, _, _, rfl, rfl, a, _, _, nI y, rfl, rfl, hS1, at_of (j := i + 1) (by push_cast; rfl) (get_nI hy), _, _, rfl, rfl, ?_⟩
      show R (V.bl (decide ((x : Int) < y))) H1
      rw [decide_eq_true (show (x : Int) < y by omega)]
      exact k H1 (Ex.refl H1)
end
end Px
/-! places of a ring, cars that park: plain mathematics -/
namespace Ma

/-- the first free place from x on, f steps at most -/
def nx (n : Nat) (T : List Nat) : Nat → Nat → Nat
  | 0, x => x
  | f + 1, x => if x ∈ T then nx n T f ((x + 1) % n) else x
def add1 (n : Nat) (T : List Nat) (x : Nat) : List Nat := T ++ [nx n T n x]
def spots (n : Nat) (ws : List Nat) : List Nat := ws.foldl (add1 n) []

theorem len_le_of_sub : ∀ {l m : List Nat}, l.Nodup → (∀ x ∈ l, x ∈ m) → l.length ≤ m.length
  | [], _, _, _ => Nat.zero_le _
  | a :: l, m, h, hs => by
    have hn := List.nodup_cons.mp h
    have ha : a ∈ m := hs a List.mem_cons_self
    have ih := len_le_of_sub (l := l) (m := m.erase a) hn.2 (fun x hx => (List.mem_erase_of_ne (fun e => hn.1 (by rw [← e]; exact hx))).mpr (hs x (List.mem_cons_of_mem _ hx)))
    rw [List.length_erase_of_mem ha] at ih
    have : 0 < m.length := List.length_pos_of_mem ha
    rw [List.length_cons]
    omega
theorem free_place {n : Nat} {T : List Nat} (hl : T.length < n) : ∃ y, y < n ∧ y ∉ T := by
  by_cases h : ∃ y, y < n ∧ y ∉ T
  · exact h
  · have : (List.range n).length ≤ T.length := len_le_of_sub List.nodup_range (fun x hx => by
      by_cases hx2 : x ∈ T
      · exact hx2
      · exact absurd ⟨x, List.mem_range.mp hx, hx2⟩ h)
    rw [List.length_range] at this
    omega
theorem free_from {n x : Nat} {T : List Nat} (hl : T.length < n) (hx : x < n) : ∃ k, k < n ∧ (x + k) % n ∉ T := by
  obtain ⟨y, hy, hT⟩ := free_place hl
  by_cases h : x ≤ y
  · refine ⟨y - x, by omega, ?_⟩
    rw [show x + (y - x) = y by omega, Nat.mod_eq_of_lt hy]
    exact hT
  · refine ⟨n + y - x, by omega, ?_⟩
    rw [show x + (n + y - x) = y + n by omega, Nat.add_mod_right, Nat.mod_eq_of_lt hy]
    exact hT
/-- there is a free place within f steps -/
def Fr (n : Nat) (T : List Nat) (f x : Nat) : Prop := x < n ∧ ∃ k, k < f ∧ (x + k) % n ∉ T
theorem Fr.step {n f x : Nat} {T : List Nat} (h : Fr n T f x) (hx : x ∈ T) : ∃ f', f = f' + 1 ∧ Fr n T f' ((x + 1) % n) := by
  obtain ⟨hn, k, hk, hT⟩ := h
  cases f with
  | zero => omega
  | succ f =>
    refine ⟨f, rfl, Nat.mod_lt _ (by omega), ?_⟩
    cases k with
    | zero => rw [Nat.add_zero, Nat.mod_eq_of_lt hn] at hT; exact absurd hx hT
    | succ k =>
      refine ⟨k, by omega, ?_⟩
      rw [Nat.mod_add_mod, show x + 1 + k = x + (k + 1) by omega]
      exact hT
/-- where a car comes to: k steps on, all places before taken -/
theorem nx_spec {n : Nat} {T : List Nat} : ∀ {f x : Nat}, Fr n T f x → ∃ k, k < f ∧ nx n T f x = (x + k) % n ∧ (x + k) % n ∉ T ∧ ∀ j, j < k → (x + j) % n ∈ T
  | 0, x, h => by obtain ⟨_, k, hk, _⟩ := h; omega
  | f + 1, x, h => by
    unfold nx
    by_cases hx : x ∈ T
    · rw [if_pos hx]
      obtain ⟨f', e, h'⟩ := h.step hx
      obtain rfl : f = f' := by omega
      obtain ⟨k, hk, e1, e2, e3⟩ := nx_spec h'
      refine ⟨k + 1, by omega, ?_, ?_, fun j hj => ?_⟩
      · rw [e1, Nat.mod_add_mod, show x + 1 + k = x + (k + 1) by omega]
      · rw [Nat.mod_add_mod, show x + 1 + k = x + (k + 1) by omega] at e2; exact e2
      · cases j with
        | zero => rw [Nat.add_zero, Nat.mod_eq_of_lt h.1]; exact hx
        | succ j =>
          have := e3 j (by omega)
          rw [Nat.mod_add_mod, show x + 1 + j = x + (j + 1) by omega] at this
          exact this
    · rw [if_neg hx]
      refine ⟨0, by omega, by rw [Nat.add_zero, Nat.mod_eq_of_lt h.1], by rw [Nat.add_zero, Nat.mod_eq_of_lt h.1]; exact hx, fun j hj => by omega⟩
theorem nx_free {n f x : Nat} {T : List Nat} (h : Fr n T f x) : nx n T f x ∉ T := by
  obtain ⟨k, _, e, hT, _⟩ := nx_spec h
  rw [e]; exact hT
theorem nx_lt {n f x : Nat} {T : List Nat} (h : Fr n T f x) : nx n T f x < n := by
  obtain ⟨k, _, e, _, _⟩ := nx_spec h
  rw [e]; exact Nat.mod_lt _ (by have := h.1; omega)
theorem fr_of {n x : Nat} {T : List Nat} (hl : T.length < n) (hx : x < n) : Fr n T n x := ⟨hx, free_from hl hx⟩

/-- places taken so far -/
structure Tk (n : Nat) (T : List Nat) : Prop where
  nd : T.Nodup
  lt : ∀ x ∈ T, x < n
theorem Tk.nil {n : Nat} : Tk n [] := ⟨List.nodup_nil, fun x h => by simp at h⟩
theorem Tk.add {n x : Nat} {T : List Nat} (h : Tk n T) (hl : T.length < n) (hx : x < n) : Tk n (add1 n T x) := by
  have hf := fr_of hl hx
  refine ⟨?_, fun y hy => ?_⟩
  · unfold add1
    rw [List.nodup_append]
    refine ⟨h.nd, by simp, fun a ha b hb => ?_⟩
    rw [List.mem_singleton] at hb
    rintro rfl
    exact nx_free hf (hb ▸ ha)
  · unfold add1 at hy
    rcases List.mem_append.mp hy with hy | hy
    · exact h.lt y hy
    · rw [List.mem_singleton] at hy
      rw [hy]; exact nx_lt hf
theorem add1_len {n x : Nat} {T : List Nat} : (add1 n T x).length = T.length + 1 := by simp [add1]
theorem fold_len {n : Nat} : ∀ (ws T : List Nat), (ws.foldl (add1 n) T).length = T.length + ws.length
  | [], T => rfl
  | x :: ws, T => by rw [List.foldl_cons, fold_len ws, add1_len, List.length_cons]; omega
theorem fold_tk {n : Nat} : ∀ (ws T : List Nat), Tk n T → T.length + ws.length ≤ n → (∀ x ∈ ws, x < n) → Tk n (ws.foldl (add1 n) T)
  | [], T, h, _, _ => h
  | x :: ws, T, h, hl, hw => by
    rw [List.length_cons] at hl
    exact fold_tk ws _ (h.add (by omega) (hw x List.mem_cons_self)) (by rw [add1_len]; omega) (fun y hy => hw y (List.mem_cons_of_mem _ hy))
theorem spots_len (n : Nat) (ws : List Nat) : (spots n ws).length = ws.length := by unfold spots; rw [fold_len]; simp
theorem spots_tk {n : Nat} {ws : List Nat} (hl : ws.length ≤ n) (hw : ∀ x ∈ ws, x < n) : Tk n (spots n ws) := fold_tk ws [] Tk.nil (by simpa using hl) hw
theorem spots_snoc (n : Nat) (ws : List Nat) (x : Nat) : spots n (ws ++ [x]) = add1 n (spots n ws) x := by unfold spots; rw [List.foldl_append]; rfl
theorem spots_take_succ {n : Nat} {ws : List Nat} {i x : Nat} (h : ws[i]? = some x) : spots n (ws.take (i + 1)) = add1 n (spots n (ws.take i)) x := by
  rw [List.take_add_one, h]; exact spots_snoc n _ x

/-! ### blocks -/
/-- the length of the row of places of G from p on, l known -/
def runLen (n : Nat) (G : List Nat) : Nat → Nat → Nat → Nat
  | 0, _, l => l
  | f + 1, p, l => if (p + l) % n ∈ G then runLen n G f p (l + 1) else l
def blocks (n : Nat) (G : List Nat) : List (Nat × Nat) :=
  if G.length = n then [(0, n)] else (G.filter fun p => decide ((p + n - 1) % n ∉ G)).map fun p => (p, runLen n G n p 1)
def row (n : Nat) (b : Nat × Nat) : List Nat := (List.range b.2).map fun k => (b.1 + k) % n
def bps (n : Nat) (G : List Nat) : List (List Nat) := (blocks n G).map (row n)

/-! ### kept wishes -/
/-- the places that wishes of K have -/
def at_ (ws : List Nat) (K : List Nat) : List Nat := K.map fun i => ws.getD i 0
/-- ranks in a block of those of K in it -/
def ranks (ws b K : List Nat) : List Nat := ((at_ ws K).filter fun x => decide (x ∈ b)).map fun x => b.idxOf x
def blockOk (ws K b : List Nat) : Bool := (List.range b.length).all fun a => decide (((ranks ws b K).filter fun r => decide (a ≤ r)).length ≤ b.length - a)
def keptB (n : Nat) (ws G K : List Nat) : Bool := (bps n G).all (blockOk ws K) && (at_ ws K).all fun x => decide (x ∈ G)
end Ma
/-! ratios in lowest terms -/
namespace Ma
def rt (a b : Nat) : List Nat := [a / Nat.gcd a b, b / Nat.gcd a b]
theorem rt_eq {x y z N : Nat} (hy : 0 < y) (hN : 0 < N) (h : x * N = z * y) : rt x y = rt z N := by
  have g1 : 0 < Nat.gcd x y := Nat.gcd_pos_of_pos_right _ hy
  have g2 : 0 < Nat.gcd z N := Nat.gcd_pos_of_pos_right _ hN
  have c1 : Nat.Coprime (x / Nat.gcd x y) (y / Nat.gcd x y) := Nat.coprime_div_gcd_div_gcd g1
  have c2 : Nat.Coprime (z / Nat.gcd z N) (N / Nat.gcd z N) := Nat.coprime_div_gcd_div_gcd g2
  have ex : x = x / Nat.gcd x y * Nat.gcd x y := (Nat.div_mul_cancel (Nat.gcd_dvd_left x y)).symm
  have ey : y = y / Nat.gcd x y * Nat.gcd x y := (Nat.div_mul_cancel (Nat.gcd_dvd_right x y)).symm
  have ez : z = z / Nat.gcd z N * Nat.gcd z N := (Nat.div_mul_cancel (Nat.gcd_dvd_left z N)).symm
  have eN : N = N / Nat.gcd z N * Nat.gcd z N := (Nat.div_mul_cancel (Nat.gcd_dvd_right z N)).symm
  generalize hg1 : Nat.gcd x y = g at *
  generalize hg2 : Nat.gcd z N = k at *
  generalize ha : x / g = a at *
  generalize hb : y / g = b at *
  generalize hc : z / k = c at *
  generalize hd : N / k = d at *
  have key : a * d = c * b := by
    rw [ex, ey, ez, eN] at h
    have : (a * d) * (g * k) = (c * b) * (g * k) := by
      calc (a * d) * (g * k) = a * g * (d * k) := by ac_rfl
        _ = c * k * (b * g) := h
        _ = (c * b) * (g * k) := by ac_rfl
    exact Nat.eq_of_mul_eq_mul_right (Nat.mul_pos g1 g2) this
  have hb0 : 0 < b := by
    rcases Nat.eq_zero_or_pos b with z | z
    · rw [z, Nat.zero_mul] at ey; omega
    · exact z
  have hd0 : 0 < d := by
    rcases Nat.eq_zero_or_pos d with z | z
    · rw [z, Nat.zero_mul] at eN; omega
    · exact z
  have d1 : b ∣ d := c1.symm.dvd_of_dvd_mul_left (by rw [key]; exact Nat.dvd_mul_left b c)
  have d2 : d ∣ b := c2.symm.dvd_of_dvd_mul_left (by rw [← key]; exact Nat.dvd_mul_left d a)
  have ebd : b = d := Nat.dvd_antisymm d1 d2
  have eac : a = c := by
    rw [ebd] at key
    exact Nat.eq_of_mul_eq_mul_right hd0 key
  unfold rt
  rw [hg1, hg2, ha, hb, hc, hd, ebd, eac]
theorem rt_zero {N : Nat} (hN : 0 < N) : rt 0 N = [0, 1] := by
  unfold rt
  rw [Nat.gcd_zero_left, Nat.zero_div, Nat.div_self hN]
theorem rt_one (d : Nat) : rt d 1 = [d, 1] := by
  unfold rt
  rw [Nat.gcd_one_right, Nat.div_one, Nat.div_one]
/-- top and bottom -/
def tp (a N : Nat) : Nat := a / Nat.gcd a N
def bt (a N : Nat) : Nat := N / Nat.gcd a N
theorem rt_pair (a N : Nat) : rt a N = [tp a N, bt a N] := rfl
theorem tp_bt {a N : Nat} (hN : 0 < N) : tp a N * N = a * bt a N := by
  unfold tp bt
  have h1 := Nat.div_mul_cancel (Nat.gcd_dvd_left a N)
  have h2 := Nat.div_mul_cancel (Nat.gcd_dvd_right a N)
  have g1 : 0 < Nat.gcd a N := Nat.gcd_pos_of_pos_right _ hN
  refine Nat.eq_of_mul_eq_mul_right g1 ?_
  calc a / a.gcd N * N * a.gcd N = (a / a.gcd N * a.gcd N) * N := by ac_rfl
    _ = a * N := by rw [h1]
    _ = a * (N / a.gcd N * a.gcd N) := by rw [h2]
    _ = a * (N / a.gcd N) * a.gcd N := by ac_rfl
theorem bt_pos {a N : Nat} (hN : 0 < N) : 0 < bt a N := by
  have h2 := Nat.div_mul_cancel (Nat.gcd_dvd_right a N)
  unfold bt
  rcases Nat.eq_zero_or_pos (N / a.gcd N) with z | z
  · rw [z, Nat.zero_mul] at h2; omega
  · exact z
theorem bt_le (a N : Nat) : bt a N ≤ N := Nat.div_le_self _ _
theorem tp_le (a N : Nat) : tp a N ≤ a := Nat.div_le_self _ _
theorem rt_plus {a b N : Nat} (hN : 0 < N) : rt (tp a N * bt b N + tp b N * bt a N) (bt a N * bt b N) = rt (a + b) N := by
  refine rt_eq (Nat.mul_pos (bt_pos hN) (bt_pos hN)) hN ?_
  have h1 := tp_bt (a := a) hN
  have h2 := tp_bt (a := b) hN
  calc (tp a N * bt b N + tp b N * bt a N) * N = tp a N * N * bt b N + tp b N * N * bt a N := by rw [Nat.add_mul]; ac_rfl
    _ = a * bt a N * bt b N + b * bt b N * bt a N := by rw [h1, h2]
    _ = (a + b) * (bt a N * bt b N) := by rw [Nat.add_mul]; ac_rfl
theorem rt_by {d a N : Nat} (hN : 0 < N) : rt (d * tp a N) (1 * bt a N) = rt (d * a) N := by
  refine rt_eq (by rw [Nat.one_mul]; exact bt_pos hN) hN ?_
  have h1 := tp_bt (a := a) hN
  calc d * tp a N * N = d * (tp a N * N) := by ac_rfl
    _ = d * a * (1 * bt a N) := by rw [h1, Nat.one_mul]; ac_rfl
end Ma
/-! who parks before: plain mathematics -/
namespace Ma
def fac : Nat → Nat
  | 0 => 1
  | k + 1 => fac k * (k + 1)
theorem fac_le {k : Nat} (h : k ≤ 9) : fac k ≤ 362880 := by
  have : ∀ j, j ≤ 9 → fac j ≤ 362880 := by decide
  exact this k h
theorem fac_pos : ∀ k, 0 < fac k
  | 0 => by decide
  | k + 1 => Nat.mul_pos (fac_pos k) (Nat.succ_pos k)
/-- all but k -/
def oth (m k : Nat) : List Nat := (List.range m).filter fun j => decide (j ≠ k)
def okB (B : List Nat) (k : Nat) : Bool := B.isEmpty || decide (B.getLastD 0 < k)
def addK (l : List (List Nat)) (x : List Nat) : List (List Nat) := if x ∈ l then l else l ++ [x]
def stepB (B : List Nat) (acc : List (List Nat)) (k : Nat) : List (List Nat) := if okB B k = true then addK acc (B ++ [k]) else acc
def nextR (ot : List Nat) (rows : List (List Nat)) : List (List Nat) := rows.foldl (fun acc B => ot.foldl (stepB B) acc) []
def rowsN (m k : Nat) : Nat → List (List Nat)
  | 0 => [[]]
  | t + 1 => nextR (oth m k) (rowsN m k t)
def wgt (m : Nat) (B : List Nat) : Nat := fac B.length * fac (m - 1 - B.length)
def addAt (cs : List Nat) (s x : Nat) : List Nat := cs.set s (cs.getD s 0 + x)
def spotOf (n : Nat) (ws : List Nat) (k : Nat) (B : List Nat) : Nat := nx n (spots n (at_ ws B)) n (ws.getD k 0)
def stepC (n : Nat) (ws : List Nat) (k : Nat) (cs : List Nat) (B : List Nat) : List Nat := addAt cs (spotOf n ws k B) (wgt ws.length B)
def cntT (n : Nat) (ws : List Nat) (k : Nat) : Nat → List Nat
  | 0 => List.replicate n 0
  | t + 1 => (rowsN ws.length k t).foldl (stepC n ws k) (cntT n ws k t)
def cnts (n : Nat) (ws : List Nat) (k : Nat) : List Nat := cntT n ws k ws.length
def goodB (m k t : Nat) : Bool := decide ((rowsN m k t).length ≤ 8) && (rowsN m k t).all fun B => decide (B.length = t) && B.all fun j => decide (j < m)
theorem rows_good {m k t : Nat} (hm : m ≤ 4) (hk : k < m) (ht : t < m) : goodB m k t = true := by
  have : ∀ m, m ≤ 4 → ∀ k, k < m → ∀ t, t < m → goodB m k t = true := by decide +kernel
  exact this m hm k hk t ht
theorem addAt_len (cs : List Nat) (s x : Nat) : (addAt cs s x).length = cs.length := List.length_set
theorem fold_stepC_len (n : Nat) (ws : List Nat) (k : Nat) : ∀ (L : List (List Nat)) (cs : List Nat), (L.foldl (stepC n ws k) cs).length = cs.length
  | [], cs => rfl
  | B :: L, cs => by rw [List.foldl_cons, fold_stepC_len n ws k L]; exact addAt_len _ _ _
theorem cntT_len (n : Nat) (ws : List Nat) (k : Nat) : ∀ t, (cntT n ws k t).length = n
  | 0 => List.length_replicate
  | t + 1 => by
    have e : cntT n ws k (t + 1) = (rowsN ws.length k t).foldl (stepC n ws k) (cntT n ws k t) := rfl
    rw [e, fold_stepC_len]
    exact cntT_len n ws k t
theorem sum_set : ∀ (cs : List Nat) (s x : Nat), (cs.set s (cs.getD s 0 + x)).sum ≤ cs.sum + x
  | [], s, x => by simp
  | c :: cs, 0, x => by simp; omega
  | c :: cs, s + 1, x => by
    have := sum_set cs s x
    simp only [List.set_cons_succ, List.sum_cons, List.getD_cons_succ]
    omega
theorem fold_sum (n : Nat) (ws : List Nat) (k : Nat) : ∀ (L : List (List Nat)) (cs : List Nat), (L.foldl (stepC n ws k) cs).sum ≤ cs.sum + (L.map (wgt ws.length)).sum
  | [], cs => by simp
  | B :: L, cs => by
    rw [List.foldl_cons, List.map_cons, List.sum_cons]
    have h1 := fold_sum n ws k L (stepC n ws k cs B)
    have h2 : (stepC n ws k cs B).sum ≤ cs.sum + wgt ws.length B := sum_set cs _ _
    omega
/-- all that may park before -/
def allB (m k : Nat) : List (List Nat) := (List.range m).flatMap (rowsN m k)
theorem cntT_fold (n : Nat) (ws : List Nat) (k : Nat) : ∀ t, cntT n ws k t = ((List.range t).flatMap (rowsN ws.length k)).foldl (stepC n ws k) (List.replicate n 0)
  | 0 => rfl
  | t + 1 => by
    rw [List.range_succ, List.flatMap_append, List.foldl_append, ← cntT_fold n ws k t]
    simp [cntT]
theorem wgt_sum {m k t : Nat} (hm : m ≤ 4) (hk : k < m) (ht : t ≤ m) : ((((List.range t).flatMap (rowsN m k)).map (wgt m)).sum) ≤ fac m := by
  have : ∀ m, m ≤ 4 → ∀ k, k < m → ∀ t, t ≤ m → ((((List.range t).flatMap (rowsN m k)).map (wgt m)).sum) ≤ fac m := by decide +kernel
  exact this m hm k hk t ht
theorem sum_rep (n : Nat) : (List.replicate n 0).sum = 0 := by
  induction n with
  | zero => rfl
  | succ n ih => rw [List.replicate_succ, List.sum_cons, ih]
theorem cntT_sum {n : Nat} {ws : List Nat} {k t : Nat} (hm : ws.length ≤ 4) (hk : k < ws.length) (ht : t ≤ ws.length) : (cntT n ws k t).sum ≤ fac ws.length := by
  rw [cntT_fold]
  have h1 := fold_sum n ws k ((List.range t).flatMap (rowsN ws.length k)) (List.replicate n 0)
  have h2 := wgt_sum hm hk ht
  rw [sum_rep] at h1
  omega
theorem le_sum : ∀ (cs : List Nat) (s : Nat), cs.getD s 0 ≤ cs.sum
  | [], s => by simp
  | c :: cs, 0 => by simp
  | c :: cs, s + 1 => by
    have := le_sum cs s
    simp only [List.getD_cons_succ, List.sum_cons]
    omega
end Ma
/-! comprehensions whose list is told turn by turn -/
namespace Px
open PySem L2 PyProof.Rows Kx Tx Ma
section
variable {J : It} {n : Nat} {G : Hp → Prop} {Y : Nat → Hp → V → Hp → Prop} {g : TG} {tt : TT} {te : TE} {vs : List Nat} {σ : L2.St} {H1 : Hp} {Q : VK}
theorem goYes {σ : L2.St} {H : Hp} {A B : Hp → Prop} (h : A H) : tYes σ H (fun b H3 => if b = true then A H3 else B H3) := by
  show if true = true then A H else B H
  rw [if_pos rfl]
  exact h
theorem lc_gen (A : Addr → Nat → List V → Hp → Prop) (w : Walk J n G Y) (hG : ∀ H', Ex H1 H' → G H') (hn : n ≤ 900000)
    (h0 : ∀ D, H1 D = none → A D 0 [] (upd H1 D (.lst [])))
    (turn : ∀ D i acc x H H', i < n → H1 D = none → Ex H1 H → H D = some (.lst acc) → A D i acc H → Y i H x H' → ∀ (Ry : V → Hp → Prop) (Rn : Hp → Prop),
      (∀ y H4, Ex H H4 → A D (i + 1) (acc ++ [y]) (upd H4 D (.lst (acc ++ [y]))) → Ry y H4) → (∀ H4, Ex H H4 → A D (i + 1) acc H4 → Rn H4) →
      g x (wipe σ vs) H' fun σ2 H2 => wipe σ2 vs = wipe σ vs ∧ tt σ2 H2 fun c H3 => if c = true then te σ2 H3 Ry else Rn H3)
    (hd : ∀ D acc H', H1 D = none → Ex H1 H' → H' D = some (.lst acc) → acc.length ≤ n → A D n acc H' → Q (.ref D) H') :
    ∀ D, H1 D = none → ∃ W : Nat → Nat → Hp → Prop, (∃ m, W 0 m (upd H1 D (.lst []))) ∧ ∀ i m H, W i m H →
      (J.stop i H ∧ Q (.ref D) H) ∨ (J.go i H ∧ ∃ Nx : Hp → Prop, (∀ H', Nx H' → ∃ m', m' < m ∧ W (i + 1) m' H') ∧ ∀ x H', J.yld i H x H' → g x (wipe σ vs) H' fun σ2 H2 => wipe σ2 vs = wipe σ vs ∧ tt σ2 H2 fun b H3 =>
        if b = true then te σ2 H3 fun y H4 => ∃ acc, H4 D = some (.lst acc) ∧ acc.length < sizeLine ∧ Nx (upd H4 D (.lst (acc ++ [y]))) else Nx H3) := by
  intro D nD
  refine lc_it w (fun i H => ∃ acc, Ex H1 H ∧ H D = some (.lst acc) ∧ acc.length ≤ i ∧ A D i acc H) ⟨[], Ex.new nD, upd_same, Nat.le_refl _, h0 D nD⟩ (fun i H _ p => hG H p.choose_spec.1) (fun i x H H' hi p y => ?_) (fun H p => ?_)
  · obtain ⟨acc, e, hD, hl, hA⟩ := p
    refine turn D i acc x H H' hi nD e hD hA y _ _ (fun v H4 e4 hA' => ?_) (fun H4 e4 hA' => ?_)
    · exact ⟨acc, e4.lst hD, sz_lt (by omega), acc ++ [v], (e.trans e4).mut nD, upd_same, by rw [List.length_append, List.length_singleton]; omega, hA'⟩
    · exact ⟨acc, e.trans e4, e4.lst hD, by omega, hA'⟩
  · obtain ⟨acc, e, hD, hl, hA⟩ := p
    exact hd D acc H nD e hD hl hA
/-- the values that come, by the place -/
def giv (n : Nat) (b : Nat → Bool) (f : Nat → V) : List V := ((List.range n).filter b).map f
theorem giv_succ (n : Nat) (b : Nat → Bool) (f : Nat → V) : giv (n + 1) b f = if b n = true then giv n b f ++ [f n] else giv n b f := by
  unfold giv
  rw [List.range_succ, List.filter_append, List.map_append]
  cases h : b n <;> simp [List.filter, h]
theorem giv_all (n : Nat) (f : Nat → V) : giv n (fun _ => true) f = (List.range n).map f := by
  unfold giv
  rw [List.filter_eq_self.mpr (fun _ _ => rfl)]
theorem lc_vals (b : Nat → Bool) (f : Nat → V) (w : Walk J n G Y) (hG : ∀ H', Ex H1 H' → G H') (hn : n ≤ 900000)
    (turn : ∀ i x H H', i < n → Ex H1 H → Y i H x H' → ∀ (Ry : V → Hp → Prop) (Rn : Hp → Prop), (b i = true → ∀ H4, Ex H H4 → Ry (f i) H4) → (b i = false → ∀ H4, Ex H H4 → Rn H4) →
      g x (wipe σ vs) H' fun σ2 H2 => wipe σ2 vs = wipe σ vs ∧ tt σ2 H2 fun c H3 => if c = true then te σ2 H3 Ry else Rn H3)
    (hd : ∀ D H', H1 D = none → Ex H1 H' → H' D = some (.lst (giv n b f)) → Q (.ref D) H') :
    ∀ D, H1 D = none → ∃ W : Nat → Nat → Hp → Prop, (∃ m, W 0 m (upd H1 D (.lst []))) ∧ ∀ i m H, W i m H →
      (J.stop i H ∧ Q (.ref D) H) ∨ (J.go i H ∧ ∃ Nx : Hp → Prop, (∀ H', Nx H' → ∃ m', m' < m ∧ W (i + 1) m' H') ∧ ∀ x H', J.yld i H x H' → g x (wipe σ vs) H' fun σ2 H2 => wipe σ2 vs = wipe σ vs ∧ tt σ2 H2 fun b H3 =>
        if b = true then te σ2 H3 fun y H4 => ∃ acc, H4 D = some (.lst acc) ∧ acc.length < sizeLine ∧ Nx (upd H4 D (.lst (acc ++ [y]))) else Nx H3) :=
  lc_gen (fun _ i acc _ => acc = giv i b f) w hG hn (fun _ _ => rfl)
    (fun D i acc x H H' hi _ e _ hA y Ry Rn k1 k2 => turn i x H H' hi e y Ry Rn (fun hb H4 e4 => k1 (f i) H4 e4 (by rw [giv_succ, if_pos hb, hA])) (fun hb H4 e4 => k2 H4 e4 (by rw [giv_succ, if_neg (by rw [hb]; exact Bool.false_ne_true), hA])))
    (fun D acc H' nD e hD _ hA => hd D H' nD e (by rw [← hA]; exact hD))
end
end Px
namespace Px
open PySem L2 PyProof.Rows Kx Tx Ma

section
variable {P : Program} {w : World} {K : PySem.W.Frag} {mg : Str → Option Value} {base : Heap}
/-- the dict of places taken -/
def tkD (T : List Nat) : List (Key × V) := T.map fun (p : Nat) => ((Sum.inl (p : Int) : Key), V.bl true)
theorem tkD_val (T : List Nat) (x : Nat) : (valV (tkD T) (Sum.inl (x : Int))).isSome = decide (x ∈ T) := by
  rw [← valV_any, Bool.eq_iff_iff, List.any_eq_true, decide_eq_true_iff]
  constructor
  · rintro ⟨kv, hk, e⟩
    obtain ⟨p, hp, rfl⟩ := List.mem_map.mp hk
    have e' : (Sum.inl (p : Int) : Key) = Sum.inl (x : Int) := of_decide_eq_true e
    have : p = x := by have := Sum.inl.inj e'; omega
    rw [← this]; exact hp
  · intro h
    exact ⟨_, List.mem_map.mpr ⟨x, h, rfl⟩, decide_eq_true rfl⟩
theorem tkD_put (T : List Nat) (x : Nat) (h : x ∉ T) : putK (tkD T) (Sum.inl (x : Int)) (.bl true) = tkD (T ++ [x]) := by
  have hv : valV (tkD T) (Sum.inl (x : Int)) = none := by
    have := tkD_val T x
    rw [decide_eq_false h] at this
    cases e : valV (tkD T) (Sum.inl (x : Int)) with
    | none => rfl
    | some v => rw [e] at this; cases this
  rw [putK_new _ hv]
  unfold tkD
  rw [List.map_append]
  rfl
theorem nI_mod (a b : Nat) : V.int ((a : Int) % (b : Int)) = nI (a % b) := by unfold nI; rw [Int.natCast_emod]
def sp_spots_of (K : PySem.W.Frag) : Sp := fun vs H Q _ => ∃ (n : Nat) (a : Addr) (ws : List Nat), vs = [nI n, .ref a] ∧ (SqT K H a (ws.map nI) ∨ SqL K H a (ws.map nI)) ∧ ws.length ≤ n ∧ n ≤ 9 ∧ (∀ x ∈ ws, x < n) ∧ RetL ((spots n ws).map nI) H Q
theorem c_spots_of (D : D0 K mg "spots_of" s_spots_of ["size", "wishes"]) (T : Blt mg) : Ca P w K mg base 1 "spots_of" (sp_spots_of K) := by
  refine D.cal sc_spots_of (fun vs H Q E h => ?_) (fun f cdv A outer s H vs Q E hr h => ?_)
  · obtain ⟨n, a, ws, rfl, _⟩ := h
    rfl
  · obtain ⟨n, a, ws, rfl, hc, hl, h9, hw, q⟩ := h
    -- the loop's word
    let Pv : Addr → Addr → Nat → L2.St → Hp → Prop := fun o d i σ H' => ∃ z, σ = [some (nI n), some (.ref a), some (.ref o), some (.ref d), z] ∧ H o = none ∧ H d = none ∧ o ≠ d ∧ Ex H H' ∧
      H' o = some (.lst ((spots n (ws.take i)).map nI)) ∧ H' d = some (.dK (tkD (spots n (ws.take i))))
    rcases hc with hS | hS
    · have wk := walk_tup (K := K) (a := a) (xs := ws.map nI)
      have hG : ∀ H', Ex H H' → SqT K H' a (ws.map nI) := fun H' e => e.st hS
      refine ⟨_, (pss_cons (ps_par (i := 2) (j := 3) (by rfl) sc_spots_of.nd rfl rfl (by decide) rfl rfl (pa_cons (pe_lst pa_nil) (pa_cons pe_dnewK pa_nil)) (by rfl))
      (pss_cons (ps_for PassesOwn.never rfl (Rx.piT K (pv 1)) (pg_name (i := 4) sc_spots_of.nd rfl (by first | exact Or.inl rfl | exact Or.inr rfl))
        (pss_cons (ps_while PassesOwn.never (pt_cmp (pc_din (hu_of hr) (pv 4) (pv 3)))
          (pss_one (ps_set (i := 4) sc_spots_of.nd rfl (by first | exact Or.inl rfl | exact Or.inr rfl) (pe_op op_mod (pe_op op_add (pv 4) pe_int) (pv 0)))))
        (pss_cons (ps_dput (hu_of hr) (pv 3) (pv 4) pe_bl rfl)
        (pss_one (ps_expr (Rx.bm K PySem.F.plainAttrs_list PySem.F.slot_list_append PySem.F.type_list_append mt_append (pv 2) (pa_cons (pv 4) pa_nil)))))))
      (pss_one (ps_ret (pv 2))))), ?_⟩
      refine ⟨Nat.zero_le _, fun o no d nd => ⟨_, _, rfl, ?_⟩⟩
      have nod : o ≠ d := fun e => by
        rw [← e, upd_same] at nd
        cases nd
      have nd0 : H d = none := by rw [upd_ne nod.symm] at nd; exact nd
      refine ⟨.ref a, rfl, a, rfl, ⟨_, hG _ (((Ex.refl H).mut no).mut nd0)⟩, ?_⟩
      refine for_it wk (Pv o d) ⟨none, rfl, no, nd0, nod, ((Ex.refl H).mut no).mut nd0, by rw [upd_ne nod, upd_same]; rfl, by rw [upd_same]; rfl⟩ (fun i σ' H' _ p => ?_) (fun i x σ' H0 H1 hi p y => ?_) (fun σ' H' p => ?_)
      · obtain ⟨z, _, _, _, _, e, _⟩ := p
        exact hG H' e
      · obtain ⟨z, rfl, p1, p2, p3, e, p4, p5⟩ := p
        obtain ⟨rfl, yv⟩ := y
        obtain ⟨v, hv, rfl⟩ := nI_get yv
        have hvn : v < n := hw v (List.mem_of_getElem? hv)
        have hi' : i < ws.length := by rw [List.length_map] at hi; exact hi
        have hTl : (spots n (ws.take i)).length = i := by rw [spots_len, List.length_take]; omega
        have fr0 : Fr n (spots n (ws.take i)) n v := fr_of (by omega) hvn
        -- the while
        refine ⟨fun m σ2 H2 => H2 = H1 ∧ ∃ y, σ2 = [some (nI n), some (.ref a), some (.ref o), some (.ref d), some (nI y)] ∧ Fr n (spots n (ws.take i)) m y ∧ nx n (spots n (ws.take i)) m y = nx n (spots n (ws.take i)) n v,
          ⟨n, rfl, v, rfl, fr0, rfl⟩, ?_⟩
        rintro m σ2 H2 ⟨rfl, y, rfl, fy, ey⟩
        refine ⟨_, rfl, _, rfl, d, _, rfl, DGet.k (k := Sum.inl (y : Int)) p5, ?_⟩
        refine ⟨_, rfl, ?_⟩
        rw [tkD_val]
        by_cases hy : y ∈ spots n (ws.take i)
        · rw [decide_eq_true hy]
          obtain ⟨m', rfl, fy'⟩ := fy.step hy
          refine iteT ⟨fun σ3 H3 => H3 = H2 ∧ σ3 = [some (nI n), some (.ref a), some (.ref o), some (.ref d), some (nI ((y + 1) % n))], ?_, ?_⟩
          · rintro σ3 H3 ⟨rfl, rfl⟩
            refine ⟨m', Nat.lt_succ_self _, rfl, _, rfl, fy', ?_⟩
            rw [← ey]
            conv => rhs; unfold nx
            rw [if_pos hy]
          · refine ⟨_, rfl, _, _, rfl, rfl, _, rfl, _, _, rfl, rfl, by omega, rfl, ?_⟩
            rw [← nI_mod]; rfl
        · rw [decide_eq_false hy]
          refine iteF ?_
          have ev : nx n (spots n (ws.take i)) n v = y := by
            rw [← ey]
            cases m with
            | zero => rfl
            | succ m => unfold nx; rw [if_neg hy]
          have e1 : spots n (ws.take (i + 1)) = spots n (ws.take i) ++ [y] := by
            rw [spots_take_succ hv]; unfold add1; rw [ev]
          refine ⟨_, rfl, _, rfl, d, _, rfl, DPut.k (k := Sum.inl (y : Int)) p5 (sz_lt (by unfold tkD; rw [List.length_map]; omega)), ?_⟩
          have po : (upd H2 d (.dK (putK (tkD (spots n (ws.take i))) (Sum.inl (y : Int)) (.bl true)))) o = some (.lst ((spots n (ws.take i)).map nI)) := by
            rw [upd_ne p3]; exact p4
          refine ⟨.ref o, rfl, .inl ⟨rfl, _, .inl (.inl po)⟩, _, rfl, o, _, _, rfl, rfl, po, sz_lt (by rw [List.length_map]; omega), ?_⟩
          refine ⟨_, rfl, p1, p2, p3, (e.mut p2).mut p1, ?_, ?_⟩
          · rw [upd_same, e1, List.map_append]; rfl
          · rw [upd_ne p3.symm, upd_same, tkD_put _ _ hy, e1]
      · obtain ⟨z, rfl, p1, p2, p3, e, p4, p5⟩ := p
        rw [List.length_map, List.take_length] at p4
        exact ⟨_, rfl, q o H' p1 e p4⟩
    · have wk := walk_list (K := K) (a := a) (xs := ws.map nI)
      have hG : ∀ H', Ex H H' → SqL K H' a (ws.map nI) := fun H' e => e.sl hS
      refine ⟨_, (pss_cons (ps_par (i := 2) (j := 3) (by rfl) sc_spots_of.nd rfl rfl (by decide) rfl rfl (pa_cons (pe_lst pa_nil) (pa_cons pe_dnewK pa_nil)) (by rfl))
      (pss_cons (ps_for PassesOwn.never rfl (Rx.piL K (pv 1)) (pg_name (i := 4) sc_spots_of.nd rfl (by first | exact Or.inl rfl | exact Or.inr rfl))
        (pss_cons (ps_while PassesOwn.never (pt_cmp (pc_din (hu_of hr) (pv 4) (pv 3)))
          (pss_one (ps_set (i := 4) sc_spots_of.nd rfl (by first | exact Or.inl rfl | exact Or.inr rfl) (pe_op op_mod (pe_op op_add (pv 4) pe_int) (pv 0)))))
        (pss_cons (ps_dput (hu_of hr) (pv 3) (pv 4) pe_bl rfl)
        (pss_one (ps_expr (Rx.bm K PySem.F.plainAttrs_list PySem.F.slot_list_append PySem.F.type_list_append mt_append (pv 2) (pa_cons (pv 4) pa_nil)))))))
      (pss_one (ps_ret (pv 2))))), ?_⟩
      refine ⟨Nat.zero_le _, fun o no d nd => ⟨_, _, rfl, ?_⟩⟩
      have nod : o ≠ d := fun e => by
        rw [← e, upd_same] at nd
        cases nd
      have nd0 : H d = none := by rw [upd_ne nod.symm] at nd; exact nd
      refine ⟨.ref a, rfl, a, rfl, ⟨_, hG _ (((Ex.refl H).mut no).mut nd0)⟩, ?_⟩
      refine for_it wk (Pv o d) ⟨none, rfl, no, nd0, nod, ((Ex.refl H).mut no).mut nd0, by rw [upd_ne nod, upd_same]; rfl, by rw [upd_same]; rfl⟩ (fun i σ' H' _ p => ?_) (fun i x σ' H0 H1 hi p y => ?_) (fun σ' H' p => ?_)
      · obtain ⟨z, _, _, _, _, e, _⟩ := p
        exact hG H' e
      · obtain ⟨z, rfl, p1, p2, p3, e, p4, p5⟩ := p
        obtain ⟨rfl, yv⟩ := y
        obtain ⟨v, hv, rfl⟩ := nI_get yv
        have hvn : v < n := hw v (List.mem_of_getElem? hv)
        have hi' : i < ws.length := by rw [List.length_map] at hi; exact hi
        have hTl : (spots n (ws.take i)).length = i := by rw [spots_len, List.length_take]; omega
        have fr0 : Fr n (spots n (ws.take i)) n v := fr_of (by omega) hvn
        -- the while
        refine ⟨fun m σ2 H2 => H2 = H1 ∧ ∃ y, σ2 = [some (nI n), some (.ref a), some (.ref o), some (.ref d), some (nI y)] ∧ Fr n (spots n (ws.take i)) m y ∧ nx n (spots n (ws.take i)) m y = nx n (spots n (ws.take i)) n v,
          ⟨n, rfl, v, rfl, fr0, rfl⟩, ?_⟩
        rintro m σ2 H2 ⟨rfl, y, rfl, fy, ey⟩
        refine ⟨_, rfl, _, rfl, d, _, rfl, DGet.k (k := Sum.inl (y : Int)) p5, ?_⟩
        refine ⟨_, rfl, ?_⟩
        rw [tkD_val]
        by_cases hy : y ∈ spots n (ws.take i)
        · rw [decide_eq_true hy]
          obtain ⟨m', rfl, fy'⟩ := fy.step hy
          refine iteT ⟨fun σ3 H3 => H3 = H2 ∧ σ3 = [some (nI n), some (.ref a), some (.ref o), some (.ref d), some (nI ((y + 1) % n))], ?_, ?_⟩
          · rintro σ3 H3 ⟨rfl, rfl⟩
            refine ⟨m', Nat.lt_succ_self _, rfl, _, rfl, fy', ?_⟩
            rw [← ey]
            conv => rhs; unfold nx
            rw [if_pos hy]
          · refine ⟨_, rfl, _, _, rfl, rfl, _, rfl, _, _, rfl, rfl, by omega, rfl, ?_⟩
            rw [← nI_mod]; rfl
        · rw [decide_eq_false hy]
          refine iteF ?_
          have ev : nx n (spots n (ws.take i)) n v = y := by
            rw [← ey]
            cases m with
            | zero => rfl
            | succ m => unfold nx; rw [if_neg hy]
          have e1 : spots n (ws.take (i + 1)) = spots n (ws.take i) ++ [y] := by
            rw [spots_take_succ hv]; unfold add1; rw [ev]
          refine ⟨_, rfl, _, rfl, d, _, rfl, DPut.k (k := Sum.inl (y : Int)) p5 (sz_lt (by unfold tkD; rw [List.length_map]; omega)), ?_⟩
          have po : (upd H2 d (.dK (putK (tkD (spots n (ws.take i))) (Sum.inl (y : Int)) (.bl true)))) o = some (.lst ((spots n (ws.take i)).map nI)) := by
            rw [upd_ne p3]; exact p4
          refine ⟨.ref o, rfl, .inl ⟨rfl, _, .inl (.inl po)⟩, _, rfl, o, _, _, rfl, rfl, po, sz_lt (by rw [List.length_map]; omega), ?_⟩
          refine ⟨_, rfl, p1, p2, p3, (e.mut p2).mut p1, ?_, ?_⟩
          · rw [upd_same, e1, List.map_append]; rfl
          · rw [upd_ne p3.symm, upd_same, tkD_put _ _ hy, e1]
      · obtain ⟨z, rfl, p1, p2, p3, e, p4, p5⟩ := p
        rw [List.length_map, List.take_length] at p4
        exact ⟨_, rfl, q o H' p1 e p4⟩
theorem rgV_nI (n : Nat) : rgV 0 (n : Int) = (List.range n).map nI := by
  unfold rgV
  rw [show ((n : Int) - 0).toNat = n by omega]
  refine List.map_congr_left fun i _ => ?_
  show V.int (0 + (i : Int)) = V.int (i : Int)
  rw [Int.zero_add]
def sp_everything : Sp := fun vs H Q _ => ∃ n : Nat, vs = [nI n] ∧ n ≤ 9 ∧ RetT ((List.range n).map nI) H Q
theorem c_everything (D : D0 K mg "everything" s_everything ["size"]) (T : Blt mg) : Ca P w K mg base 1 "everything" sp_everything := by
  refine D.cal sc_everything (fun vs H Q E h => ?_) (fun f cdv A outer s H vs Q E hr h => ?_)
  · obtain ⟨n, rfl, _⟩ := h
    rfl
  · obtain ⟨n, rfl, h9, q⟩ := h
    refine ⟨_, (pss_one (ps_ret (pe_tupRg rfl (by rfl) T.tuple_ (prg_1 (by rfl) T.range_ (pv 0))))), ?_⟩
    refine ⟨_, rfl, n, rfl, .of_le (by omega) (by omega) (by omega) (by omega), fun p hp => ?_⟩
    rw [rgV_nI]
    exact q p _ hp (Ex.new hp) upd_same
end
end Px
namespace Px
open PySem L2 PyProof.Rows Kx Tx Ma

section
variable {P : Program} {w : World} {K : PySem.W.Frag} {mg : Str → Option Value} {base : Heap}
theorem nI_pred {p n : Nat} (h : 0 < n) : V.int (((p : Int) - 1) % (n : Int)) = nI ((p + n - 1) % n) := by
  unfold nI
  rw [Int.natCast_emod, show ((p + n - 1 : Nat) : Int) = (p : Int) - 1 + n by omega, Int.add_emod_right]
theorem nI_add (a b n : Nat) : V.int (((a : Int) + (b : Int)) % (n : Int)) = nI ((a + b) % n) := by
  rw [← nI_mod]; rfl
/-- a list is written: tuples stand -/
theorem TT_.wr {H : Hp} {as : List Addr} {xss : List (List Nat)} {o : Addr} {ys : List V} {u : HO} (h : TT_ H as xss) (ho : H o = some (.lst ys)) : TT_ (upd H o u) as xss :=
  ⟨h.1, fun i a xs e1 e2 => by rw [upd_ne (ne_of (h.2 i a xs e1 e2) ho (fun z => by cases z))]; exact h.2 i a xs e1 e2⟩
def prs (bs : List (Nat × Nat)) : List (List Nat) := bs.map fun b => [b.1, b.2]
theorem SetLt {n : Nat} {G : List Nat} (hr : Rise G) : G.Nodup := by
  have key : ∀ (j i x y : Nat), G[i]? = some x → G[i + 1 + j]? = some y → x < y := by
    intro j
    induction j with
    | zero => intro i x y h1 h2; exact hr i x y h1 h2
    | succ j ih =>
      intro i x y h1 h2
      have hl := (List.getElem?_eq_some_iff.mp h2).1
      have e : G[i + 1 + j]? = some G[i + 1 + j] := List.getElem?_eq_getElem (by omega)
      exact Nat.lt_trans (ih i x _ h1 e) (hr (i + 1 + j) _ _ e h2)
  rw [List.nodup_iff_pairwise_ne, List.pairwise_iff_getElem]
  intro i j hi hj hij
  have := key (j - i - 1) i G[i] G[j] (List.getElem?_eq_getElem hi) (by rw [show i + 1 + (j - i - 1) = j by omega]; exact List.getElem?_eq_getElem hj)
  omega
def sp_blocks_of (K : PySem.W.Frag) : Sp := fun vs H Q _ => ∃ (n : Nat) (a : Addr) (G : List Nat), vs = [nI n, .ref a] ∧ SqT K H a (G.map nI) ∧ Rise G ∧ n ≤ 9 ∧ 0 < n ∧ (∀ x ∈ G, x < n) ∧
  ∀ p as H2, H p = none → Ex H H2 → H2 p = some (.lst (as.map V.ref)) → TT_ H2 as (prs (blocks n G)) → Q (.ref p) H2
theorem c_blocks_of (D : D0 K mg "blocks_of" s_blocks_of ["size", "one"]) (T : Blt mg) : Ca P w K mg base 1 "blocks_of" (sp_blocks_of K) := by
  refine D.cal sc_blocks_of (fun vs H Q E h => ?_) (fun f cdv A outer s H vs Q E hr h => ?_)
  · obtain ⟨n, a, G, rfl, _⟩ := h
    rfl
  · obtain ⟨n, a, G, rfl, hS, hrise, h9, h0, hw, q⟩ := h
    have hnd : G.Nodup := SetLt (n := n) hrise
    have hle : G.length ≤ n := by
      have := len_le_of_sub (m := List.range n) hnd (fun x hx => List.mem_range.mpr (hw x hx))
      rw [List.length_range] at this; exact this
    refine ⟨_, (pss_cons (ps_if (pt_cmpR op_eq (pe_callB (Rx.lenK K) (by rfl) T.len_ (by decide +kernel) (pa_cons (pv 1) pa_nil)) (pv 0) (nomark _))
        (pss_one (ps_ret (pe_lst (pa_cons (pe_tup (pa_cons pe_int (pa_cons (pv 0) pa_nil))) pa_nil)))) pss_nil)
      (pss_cons (ps_set (i := 2) sc_blocks_of.nd rfl (by first | exact Or.inl rfl | exact Or.inr rfl) (pe_lst pa_nil))
      (pss_cons (ps_for PassesOwn.never rfl (Rx.piT K (pv 1)) (pg_name (i := 3) sc_blocks_of.nd rfl (by first | exact Or.inl rfl | exact Or.inr rfl))
        (pss_one (ps_if (pt_cmpR (Rx.niS K) (pe_op op_mod (pe_op op_sub (pv 3) pe_int) (pv 0)) (pv 1) (by rfl))
          (pss_cons (ps_set (i := 4) sc_blocks_of.nd rfl (by first | exact Or.inl rfl | exact Or.inr rfl) pe_int)
          (pss_cons (ps_while PassesOwn.never (pt_cmpR (Rx.inS K) (pe_op op_mod (pe_op op_add (pv 3) (pv 4)) (pv 0)) (pv 1) (by rfl))
            (pss_one (ps_set (i := 4) sc_blocks_of.nd rfl (by first | exact Or.inl rfl | exact Or.inr rfl) (pe_op op_add (pv 4) pe_int))))
          (pss_one (ps_expr (Rx.bm K PySem.F.plainAttrs_list PySem.F.slot_list_append PySem.F.type_list_append mt_append (pv 2) (pa_cons (pe_tup (pa_cons (pv 3) (pa_cons (pv 4) pa_nil))) pa_nil)))))) pss_nil)))
      (pss_one (ps_ret (pv 2)))))), ?_⟩
    refine ⟨_, rfl, a, _, rfl, .inr hS, _, rfl, rfl, _, rfl, ?_⟩
    refine ite2 (fun hd => ?_) (fun hd => ?_)
    · have hGn : G.length = n := by
        have := V.int.inj (of_decide_eq_true hd)
        rw [List.length_map] at this; omega
      refine ⟨_, rfl, by show 2 ≤ sizeLine; decide, fun t ht => ⟨by show 1 ≤ sizeLine; decide, fun p hp => ?_⟩⟩
      refine q p [t] _ (by rw [upd_ne (show p ≠ t from fun e => by rw [e, upd_same] at hp; cases hp)] at hp; exact hp) ((Ex.new ht).trans (Ex.new hp)) upd_same ?_
      unfold blocks
      rw [if_pos hGn]
      exact TT_.nil.snoc (xs := [0, n]) (((Ex.new hp)).tup upd_same)
    · have hGn : ¬ G.length = n := fun e => hd (decide_eq_true (by rw [List.length_map, e]; rfl))
      refine ⟨Nat.zero_le _, fun o no => ?_⟩
      refine ⟨.ref a, rfl, a, rfl, ⟨_, (Ex.new no).st hS⟩, ?_⟩
      let f : Nat → Nat × Nat := fun p => (p, runLen n G n p 1)
      let g : Nat → Bool := fun p => decide ((p + n - 1) % n ∉ G)
      refine for_it (walk_tup (K := K) (a := a) (xs := G.map nI)) (fun i σ' H' => ∃ y z as, σ' = [some (nI n), some (.ref a), some (.ref o), y, z] ∧ Ex H H' ∧ H' o = some (.lst (as.map V.ref)) ∧ TT_ H' as (prs (((G.take i).filter g).map f)) ∧ as.length ≤ i)
        ⟨none, none, [], rfl, Ex.new no, upd_same, TT_.nil, Nat.le_refl _⟩ (fun i σ' H' _ p => ?_) (fun i x σ' H0 H1 hi p y => ?_) (fun σ' H' p => ?_)
      · obtain ⟨y, z, as, _, e, _⟩ := p
        exact e.st hS
      · obtain ⟨y1, z1, as, rfl, e, p4, p5, p6⟩ := p
        obtain ⟨rfl, yv⟩ := y
        obtain ⟨v, hv, rfl⟩ := nI_get yv
        have hvn : v < n := hw v (List.mem_of_getElem? hv)
        have hi' : i < G.length := by rw [List.length_map] at hi; exact hi
        have et : G.take (i + 1) = G.take i ++ [v] := by rw [List.take_add_one, hv]; rfl
        have hS1 := e.st hS
        refine ⟨_, rfl, _, _, rfl, rfl, _, rfl, _, _, rfl, rfl, by omega, ?_⟩
        refine ⟨_, rfl, a, _, rfl, .inr hS1, rfl, flat_nI G, _, rfl, ?_⟩
        show if (!inV (V.int (((v : Int) - 1) % (n : Int))) (G.map nI)) = true then _ else _
        rw [nI_pred h0, inV_nI]
        by_cases hg : (v + n - 1) % n ∈ G
        · rw [decide_eq_true hg]
          refine iteF ⟨_, _, as, rfl, e, p4, ?_, by omega⟩
          rw [et, List.filter_append, List.filter_cons, if_neg (show ¬ g v = true from fun z => (of_decide_eq_true z) hg), List.filter_nil, List.append_nil]
          exact p5
        · rw [decide_eq_false hg]
          refine iteT ?_
          have hlt : G.length < n := by omega
          refine ⟨fun m σ2 H2 => H2 = H1 ∧ ∃ l, σ2 = [some (nI n), some (.ref a), some (.ref o), some (nI v), some (nI l)] ∧ Fr n G m ((v + l) % n) ∧ runLen n G m v l = runLen n G n v 1,
            ⟨n, rfl, 1, rfl, fr_of hlt (Nat.mod_lt _ h0), rfl⟩, ?_⟩
          rintro m σ2 H2 ⟨rfl, l, rfl, fl, el⟩
          refine ⟨_, rfl, _, rfl, _, _, rfl, rfl, _, rfl, _, _, rfl, rfl, by omega, ?_⟩
          refine ⟨_, rfl, a, _, rfl, .inr hS1, rfl, flat_nI G, _, rfl, ?_⟩
          show if inV (V.int (((v : Int) + (l : Int)) % (n : Int))) (G.map nI) = true then _ else _
          rw [nI_add, inV_nI]
          by_cases hin : (v + l) % n ∈ G
          · rw [decide_eq_true hin]
            obtain ⟨m', rfl, fl'⟩ := fl.step hin
            refine iteT ⟨fun σ3 H3 => H3 = H2 ∧ σ3 = [some (nI n), some (.ref a), some (.ref o), some (nI v), some (nI (l + 1))], ?_, ?_⟩
            · rintro σ3 H3 ⟨rfl, rfl⟩
              refine ⟨m', Nat.lt_succ_self _, rfl, l + 1, rfl, ?_, ?_⟩
              · rw [Nat.mod_add_mod] at fl'
                exact fl'
              · rw [← el]
                conv => rhs; unfold runLen
                rw [if_pos hin]
            · exact ⟨_, rfl, _, _, rfl, rfl, rfl, rfl⟩
          · rw [decide_eq_false hin]
            have ev : runLen n G n v 1 = l := by
              rw [← el]
              cases m with
              | zero => rfl
              | succ m => unfold runLen; rw [if_neg hin]
            refine iteF ?_
            refine ⟨.ref o, rfl, .inl ⟨rfl, _, .inl (.inl p4)⟩, _, rfl, _, rfl, by show 2 ≤ sizeLine; decide, fun t ht => ?_⟩
            have no' : o ≠ t := ne_of_none p4 ht
            refine ⟨o, _, _, rfl, rfl, by rw [upd_ne no']; exact p4, sz_lt (by rw [List.length_map]; omega), ?_⟩
            refine ⟨_, _, as ++ [t], rfl, ?_, ?_, ?_, by rw [List.length_append, List.length_singleton]; omega⟩
            · exact ((e.trans (Ex.new ht))).mut no
            · rw [upd_same, List.map_append]; rfl
            · rw [et, List.filter_append, List.filter_cons, if_pos (show g v = true from decide_eq_true hg), List.filter_nil, List.map_append]
              show TT_ _ (as ++ [t]) (prs (_ ++ [f v]))
              unfold prs
              rw [List.map_append]
              have e5 : TT_ (upd (upd H2 t (.tup [nI v, nI l])) o (.lst (List.map V.ref as ++ [.ref t]))) as (prs (((G.take i).filter g).map f)) :=
                TT_.wr (p5.ex (Ex.new ht)) (by rw [upd_ne no']; exact p4)
              refine e5.snoc (xs := [v, runLen n G n v 1]) ?_
              rw [ev, upd_ne no'.symm, upd_same]; rfl
      · obtain ⟨y1, z1, as, rfl, e, p4, p5, p6⟩ := p
        rw [List.length_map, List.take_length] at p5
        refine ⟨_, rfl, q o as H' no e p4 ?_⟩
        unfold blocks
        rw [if_neg hGn]
        exact p5
theorem LL.wr {H : Hp} {as : List Addr} {xss : List (List Nat)} {o : Addr} {u : HO} (h : LL H as xss) (hne : ∀ a ∈ as, a ≠ o) : LL (upd H o u) as xss :=
  ⟨h.1, fun i a xs e1 e2 => by rw [upd_ne (hne a (List.mem_of_getElem? e1))]; exact h.2 i a xs e1 e2⟩
theorem set_len {n : Nat} {G : List Nat} (hr : Rise G) (hw : ∀ x ∈ G, x < n) : G.length ≤ n := by
  have := len_le_of_sub (m := List.range n) (SetLt (n := n) hr) (fun x hx => List.mem_range.mpr (hw x hx))
  rw [List.length_range] at this; exact this
theorem blocks_len {n : Nat} {G : List Nat} (hr : Rise G) (hw : ∀ x ∈ G, x < n) (h9 : n ≤ 9) : (blocks n G).length ≤ 9 := by
  unfold blocks
  split
  · simp
  · rw [List.length_map]
    have := List.length_filter_le (fun p => decide ((p + n - 1) % n ∉ G)) G
    have := set_len hr hw
    omega
theorem runLen_le (n : Nat) (G : List Nat) : ∀ f p l, runLen n G f p l ≤ l + f
  | 0, p, l => Nat.le_refl _
  | f + 1, p, l => by
    unfold runLen
    split
    · have := runLen_le n G f p (l + 1); omega
    · omega
theorem blocks_le {n f l : Nat} {G : List Nat} (h9 : n ≤ 9) (h : (f, l) ∈ blocks n G) : l ≤ 100 := by
  unfold blocks at h
  split at h
  · simp at h; omega
  · obtain ⟨p, _, e⟩ := List.mem_map.mp h
    have := runLen_le n G n p 1
    have e2 : runLen n G n p 1 = l := congrArg Prod.snd e
    omega
def sp_block_places (K : PySem.W.Frag) : Sp := fun vs H Q _ => ∃ (n : Nat) (a : Addr) (G : List Nat), vs = [nI n, .ref a] ∧ SqT K H a (G.map nI) ∧ Rise G ∧ n ≤ 9 ∧ 0 < n ∧ (∀ x ∈ G, x < n) ∧
  ∀ p as H2, H p = none → Ex H H2 → H2 p = some (.lst (as.map V.ref)) → LL H2 as (bps n G) → Q (.ref p) H2
theorem c_block_places (D : D0 K mg "block_places" s_block_places ["size", "whole"]) (T : Blt mg) (C_blocks_of : Ca P w K mg base 1 "blocks_of" (sp_blocks_of K)) : Ca P w K mg base 2 "block_places" (sp_block_places K) := by
  refine D.cal sc_block_places (fun vs H Q E h => ?_) (fun f cdv A outer s H vs Q E hr h => ?_)
  · obtain ⟨n, a, G, rfl, _⟩ := h
    rfl
  · obtain ⟨n, a, G, rfl, hS, hrise, h9, h0, hw, q⟩ := h
    refine ⟨_, (pss_one (ps_ret (pe_lc (own := [("first", 2), ("length", 3)]) (by rfl) sc_block_places.nd (Rx.piL K (pe_ca C_blocks_of hr (by decide) (by rfl) (pa_cons (pv 0) (pa_cons (pv 1) pa_nil)))) (blkOk_by (own := [("first", 2), ("length", 3)]) (by rfl)) (fun _ _ _ _ _ => (Rx.pgT (n := 2) K rfl (pgs_cons (pg_name (i := 2) sc_block_places.nd rfl (by first | exact Or.inl rfl | exact Or.inr rfl)) (pgs_cons (pg_name (i := 3) sc_block_places.nd rfl (by first | exact Or.inl rfl | exact Or.inr rfl)) pgs_nil)))) (fun _ _ _ _ _ => pts_nil) (fun _ _ _ _ _ => (pe_lc (own := [("k", 4)]) (by rfl) sc_block_places.nd (pi_range1 (by rfl) T.range_ (pa_cons (pv 3) pa_nil)) (blkOk_by (own := [("k", 4)]) (by rfl)) (fun _ _ _ _ _ => (pg_name (i := 4) sc_block_places.nd rfl (by first | exact Or.inl rfl | exact Or.inr rfl))) (fun _ _ _ _ _ => pts_nil) (fun _ _ _ _ _ => (pe_op op_mod (pe_op op_add (pv 2) (pv 4)) (pv 0)))))))), ?_⟩
    refine ⟨_, rfl, _, rfl, n, a, G, rfl, hS, hrise, h9, h0, hw, fun p bs H2 hp e2 hpl hbs => ⟨p, rfl, ⟨_, sl_of hpl⟩, ?_⟩⟩
    have hbl : (blocks n G).length ≤ 9 := blocks_len hrise hw h9
    have hlen : bs.length = (blocks n G).length := by rw [hbs.1]; unfold prs; rw [List.length_map]
    refine lc_gen (fun D i acc H' => ∃ as, acc = as.map V.ref ∧ LL H' as (((blocks n G).take i).map (row n)) ∧ ∀ a ∈ as, a ≠ D) (walk_list (K := K) (a := p) (xs := bs.map V.ref)) (fun H' e => e.sl (sl_of hpl)) (by rw [List.length_map]; omega)
      (fun D _ => ⟨[], rfl, LL.nil, fun a h => by simp at h⟩) (fun D i acc x H3 H4 hi nD e3 hD hA y Ry Rn k1 k2 => ?_) (fun D acc H' nD e hD _ hA => ?_)
    · obtain ⟨rfl, yv⟩ := y
      obtain ⟨as, rfl, hL, hne⟩ := hA
      have hi' : i < bs.length := by rw [List.length_map] at hi; exact hi
      have hb1 : bs[i]? = some bs[i] := List.getElem?_eq_getElem hi'
      obtain ⟨b, hb2⟩ : ∃ b, (blocks n G)[i]? = some b := ⟨_, List.getElem?_eq_getElem (by omega)⟩
      obtain ⟨f, l⟩ := b
      have ex : x = .ref bs[i] := by
        have e := yv
        rw [List.getElem?_map, hb1] at e
        exact (Option.some.inj e).symm
      subst ex
      have hl9 : l ≤ 100 := blocks_le h9 (List.mem_of_getElem? hb2)
      have ht : H4 bs[i] = some (.tup ([f, l].map nI)) := e3.tup (hbs.2 i _ [f, l] hb1 (by unfold prs; rw [List.getElem?_map, hb2]; rfl))
      refine ⟨bs[i], _, rfl, st_of ht, rfl, nI f, _, rfl, nI l, _, rfl, rfl, rfl, goYes ?_⟩
      refine ⟨_, rfl, (l : Int), rfl, by omega, by omega, ?_⟩
      refine lc_vals (fun _ => true) (fun k => nI ((f + k) % n)) (walk_range (lo := 0) (n := (l : Int).toNat)) (fun _ _ => True.intro) (by omega) (fun k z H5 H6 hk e5 yk Ry' Rn' q1 _ => ?_) (fun D2 H5 nD2 e5 hD2 => ?_)
      · obtain ⟨rfl, rfl⟩ := yk
        refine ⟨rfl, goYes ?_⟩
        refine ⟨_, rfl, _, rfl, _, _, rfl, rfl, _, rfl, _, _, rfl, rfl, by omega, ?_⟩
        show Ry' (V.int (((f : Int) + (0 + (k : Int))) % (n : Int))) _
        rw [show (0 : Int) + (k : Int) = (k : Int) by omega, nI_add]
        exact q1 rfl H6 (Ex.refl _)
      · have hnD : D2 ≠ D := fun e => by rw [e] at nD2; rw [nD2] at hD; cases hD
        refine k1 _ H5 e5 ⟨as ++ [D2], by rw [List.map_append]; rfl, ?_, fun a ha => ?_⟩
        · rw [List.take_add_one, hb2, List.map_append]
          refine LL.snoc (LL.wr (hL.ex e5) hne) ?_
          rw [upd_ne hnD, hD2, giv_all]
          unfold row
          rw [List.map_map]; rfl
        · rcases List.mem_append.mp ha with ha | ha
          · exact hne a ha
          · rw [List.mem_singleton] at ha; rw [ha]; exact hnD
    · obtain ⟨as, rfl, hL, _⟩ := hA
      rw [List.length_map, hlen, List.take_length] at hL
      exact q D as H' (e2.free D nD) (e2.trans e) hD hL
end
end Px
namespace Px
open PySem L2 PyProof.Rows Kx Tx Ma

section
variable {P : Program} {w : World} {K : PySem.W.Frag} {mg : Str → Option Value} {base : Heap}
theorem nI_fdiv (a b : Nat) : V.int ((a : Int).fdiv (b : Int)) = nI (a / b) := by
  unfold nI
  rw [Int.fdiv_eq_ediv_of_nonneg _ (by omega), Int.natCast_ediv]
def sp_ratio : Sp := fun vs H Q _ => ∃ a b : Nat, vs = [nI a, nI b] ∧ 0 < b ∧ b < 1000000000 ∧ RetT ((rt a b).map nI) H Q
theorem c_ratio (D : D0 K mg "ratio" s_ratio ["top", "bottom"]) (T : Blt mg) : Ca P w K mg base 1 "ratio" sp_ratio := by
  refine D.cal sc_ratio (fun vs H Q E h => ?_) (fun f cdv A outer s H vs Q E hr h => ?_)
  · obtain ⟨a, b, rfl, _⟩ := h
    rfl
  · obtain ⟨a, b, rfl, hb, hb2, q⟩ := h
    refine ⟨_, (pss_cons (ps_set (i := 2) sc_ratio.nd rfl (by first | exact Or.inl rfl | exact Or.inr rfl) (pe_ifExp (pt_cmpR op_gt (pv 1) pe_int (nomark _)) (pe_callBfun cr_gcd (by rfl) T.gcd_ (pa_cons (pv 0) (pa_cons (pv 1) pa_nil))) (pe_op op_sub pe_int (pe_callBfun cr_gcd (by rfl) T.gcd_ (pa_cons (pv 0) (pa_cons (pv 1) pa_nil))))))
      (pss_one (ps_ret (pe_tup (pa_cons (pe_op op_fdivN (pv 0) (pv 2)) (pa_cons (pe_op op_fdivN (pv 1) (pv 2)) pa_nil)))))), ?_⟩
    have g0 : 0 < Nat.gcd a b := Nat.gcd_pos_of_pos_right _ hb
    have g1 : Nat.gcd a b ≤ b := Nat.gcd_le_right a hb
    refine ⟨_, rfl, _, _, rfl, rfl, _, rfl, ?_⟩
    rw [decide_eq_true (show (0 : Int) < b by omega)]
    refine iteT ⟨_, rfl, _, rfl, a, b, rfl, ?_⟩
    rw [Int.natAbs_natCast, Int.natAbs_natCast]
    refine ⟨_, rfl, _, rfl, _, _, rfl, rfl, ⟨by omega, by rw [Int.natAbs_natCast]; omega⟩, ?_⟩
    refine ⟨_, rfl, _, rfl, _, _, rfl, rfl, ⟨by omega, by rw [Int.natAbs_natCast]; omega⟩, ?_⟩
    refine ⟨by show 2 ≤ sizeLine; decide, fun p hp => q p _ hp (Ex.new hp) ?_⟩
    rw [upd_same]
    show some (HO.tup [V.int ((a : Int).fdiv ((Nat.gcd a b : Nat) : Int)), V.int ((b : Int).fdiv ((Nat.gcd a b : Nat) : Int))]) = _
    rw [nI_fdiv, nI_fdiv]
    rfl
theorem nI_mul (a b : Nat) : V.int ((a : Int) * (b : Int)) = nI (a * b) := by unfold nI; rw [Int.natCast_mul]
def sp_plus (K : PySem.W.Frag) : Sp := fun vs H Q _ => ∃ (p r : Addr) (a b c d : Nat), vs = [.ref p, .ref r] ∧ SqT K H p ([a, b].map nI) ∧ SqT K H r ([c, d].map nI) ∧ a ≤ 1000000 ∧ c ≤ 1000000 ∧ 0 < b ∧ 0 < d ∧ b ≤ 10000 ∧ d ≤ 10000 ∧ RetT ((rt (a * d + c * b) (b * d)).map nI) H Q
theorem c_plus (D : D0 K mg "plus" s_plus ["one", "other"]) (T : Blt mg) (C_ratio : Ca P w K mg base 1 "ratio" sp_ratio) : Ca P w K mg base 2 "plus" (sp_plus K) := by
  refine D.cal sc_plus (fun vs H Q E h => ?_) (fun f cdv A outer s H vs Q E hr h => ?_)
  · obtain ⟨p, r, a, b, c, d, rfl, _⟩ := h
    rfl
  · obtain ⟨p, r, a, b, c, d, rfl, h1, h2, ha, hc, hb, hd, hb2, hd2, q⟩ := h
    refine ⟨_, (pss_one (ps_ret (pe_ca C_ratio hr (by decide) (by rfl) (pa_cons (pe_op op_add (pe_op op_mul (pe_ix (Rx.ixT K) (pv 0) pe_int (fun _ _ => rfl)) (pe_ix (Rx.ixT K) (pv 1) pe_int (fun _ _ => rfl))) (pe_op op_mul (pe_ix (Rx.ixT K) (pv 1) pe_int (fun _ _ => rfl)) (pe_ix (Rx.ixT K) (pv 0) pe_int (fun _ _ => rfl)))) (pa_cons (pe_op op_mul (pe_ix (Rx.ixT K) (pv 0) pe_int (fun _ _ => rfl)) (pe_ix (Rx.ixT K) (pv 1) pe_int (fun _ _ => rfl))) pa_nil))))), ?_⟩
    refine ⟨_, rfl, p, _, 0, nI a, rfl, rfl, h1, atI_nat (j := 0) rfl, _, rfl, r, _, 1, nI d, rfl, rfl, h2, atI_nat (j := 1) rfl, _, _, rfl, rfl, .inl ⟨by omega, by omega⟩, ?_⟩
    refine ⟨_, rfl, r, _, 0, nI c, rfl, rfl, h2, atI_nat (j := 0) rfl, _, rfl, p, _, 1, nI b, rfl, rfl, h1, atI_nat (j := 1) rfl, _, _, rfl, rfl, .inl ⟨by omega, by omega⟩, _, _, rfl, rfl, ?_⟩
    refine ⟨_, rfl, p, _, 1, nI b, rfl, rfl, h1, atI_nat (j := 1) rfl, _, rfl, r, _, 1, nI d, rfl, rfl, h2, atI_nat (j := 1) rfl, _, _, rfl, rfl, .inl ⟨by omega, by omega⟩, ?_⟩
    have hbd : b * d ≤ 10000 * 10000 := Nat.mul_le_mul hb2 hd2
    refine ⟨a * d + c * b, b * d, ?_, Nat.mul_pos hb hd, by omega, q⟩
    rw [← nI_mul]
    unfold nI
    push_cast
    rfl
def sp_by (K : PySem.W.Frag) : Sp := fun vs H Q _ => ∃ (p r : Addr) (a b c d : Nat), vs = [.ref p, .ref r] ∧ SqT K H p ([a, b].map nI) ∧ SqT K H r ([c, d].map nI) ∧ a ≤ 1000000 ∧ c ≤ 1000000 ∧ 0 < b ∧ 0 < d ∧ b ≤ 10000 ∧ d ≤ 10000 ∧ RetT ((rt (a * c) (b * d)).map nI) H Q
theorem c_by (D : D0 K mg "by" s_by ["one", "other"]) (T : Blt mg) (C_ratio : Ca P w K mg base 1 "ratio" sp_ratio) : Ca P w K mg base 2 "by" (sp_by K) := by
  refine D.cal sc_by (fun vs H Q E h => ?_) (fun f cdv A outer s H vs Q E hr h => ?_)
  · obtain ⟨p, r, a, b, c, d, rfl, _⟩ := h
    rfl
  · obtain ⟨p, r, a, b, c, d, rfl, h1, h2, ha, hc, hb, hd, hb2, hd2, q⟩ := h
    refine ⟨_, (pss_one (ps_ret (pe_ca C_ratio hr (by decide) (by rfl) (pa_cons (pe_op op_mul (pe_ix (Rx.ixT K) (pv 0) pe_int (fun _ _ => rfl)) (pe_ix (Rx.ixT K) (pv 1) pe_int (fun _ _ => rfl))) (pa_cons (pe_op op_mul (pe_ix (Rx.ixT K) (pv 0) pe_int (fun _ _ => rfl)) (pe_ix (Rx.ixT K) (pv 1) pe_int (fun _ _ => rfl))) pa_nil))))), ?_⟩
    refine ⟨_, rfl, p, _, 0, nI a, rfl, rfl, h1, atI_nat (j := 0) rfl, _, rfl, r, _, 0, nI c, rfl, rfl, h2, atI_nat (j := 0) rfl, _, _, rfl, rfl, .inl ⟨by omega, by omega⟩, ?_⟩
    refine ⟨_, rfl, p, _, 1, nI b, rfl, rfl, h1, atI_nat (j := 1) rfl, _, rfl, r, _, 1, nI d, rfl, rfl, h2, atI_nat (j := 1) rfl, _, _, rfl, rfl, .inl ⟨by omega, by omega⟩, ?_⟩
    have hbd : b * d ≤ 10000 * 10000 := Nat.mul_le_mul hb2 hd2
    refine ⟨a * c, b * d, ?_, Nat.mul_pos hb hd, by omega, q⟩
    rw [← nI_mul, ← nI_mul]
    rfl
theorem sum_take_le : ∀ (cs : List Nat) (i : Nat), (cs.take i).sum ≤ cs.sum
  | [], i => by simp
  | c :: cs, 0 => by simp
  | c :: cs, i + 1 => by
    rw [List.take_succ_cons, List.sum_cons, List.sum_cons]
    have := sum_take_le cs i
    omega
def sp_sum_of (K : PySem.W.Frag) : Sp := fun vs H Q _ => ∃ (p : Addr) (as : List Addr) (cs : List Nat) (N : Nat), vs = [.ref p] ∧ SqL K H p (as.map V.ref) ∧ TT_ H as (cs.map fun c => rt c N) ∧ 0 < N ∧ N ≤ 10000 ∧ cs.sum ≤ 100000 ∧ RetT ((rt cs.sum N).map nI) H Q
theorem c_sum_of (D : D0 K mg "sum_of" s_sum_of ["some"]) (T : Blt mg) (C_plus : Ca P w K mg base 2 "plus" (sp_plus K)) : Ca P w K mg base 3 "sum_of" (sp_sum_of K) := by
  refine D.cal sc_sum_of (fun vs H Q E h => ?_) (fun f cdv A outer s H vs Q E hr h => ?_)
  · obtain ⟨p, as, cs, N, rfl, _⟩ := h
    rfl
  · obtain ⟨p, as, cs, N, rfl, hS, hT, hN, hN2, hc, q⟩ := h
    refine ⟨_, (pss_cons (ps_set (i := 1) sc_sum_of.nd rfl (by first | exact Or.inl rfl | exact Or.inr rfl) (pe_tup (pa_cons pe_int (pa_cons pe_int pa_nil))))
      (pss_cons (ps_for PassesOwn.never rfl (Rx.piL K (pv 0)) (pg_name (i := 2) sc_sum_of.nd rfl (by first | exact Or.inl rfl | exact Or.inr rfl))
        (pss_one (ps_set (i := 1) sc_sum_of.nd rfl (by first | exact Or.inl rfl | exact Or.inr rfl) (pe_ca C_plus hr (by decide) (by rfl) (pa_cons (pv 1) (pa_cons (pv 2) pa_nil))))))
      (pss_one (ps_ret (pv 1))))), ?_⟩
    refine ⟨by show 2 ≤ sizeLine; decide, fun t ht => ?_⟩
    have e0 := Ex.new (o := .tup [.int 0, .int 1]) ht
    refine ⟨_, rfl, p, rfl, ⟨_, e0.sl hS⟩, ?_⟩
    refine for_it (walk_list (K := K) (a := p) (xs := as.map V.ref)) (fun i σ' H' => ∃ t z, σ' = [some (.ref p), some (.ref t), z] ∧ Ex H H' ∧ H t = none ∧ H' t = some (.tup ((rt (cs.take i).sum N).map nI)))
      ⟨t, none, rfl, e0, ht, by rw [upd_same, List.take_zero, List.sum_nil, rt_zero hN]; rfl⟩ (fun i σ' H' _ p => p.choose_spec.choose_spec.2.1.sl hS) (fun i x σ' H0 H1 hi p y => ?_) (fun σ' H' pp => ?_)
    · obtain ⟨t1, z, rfl, e, ht1, h1⟩ := p
      obtain ⟨rfl, yv⟩ := y
      have hi' : i < as.length := by rw [List.length_map] at hi; exact hi
      have ha : as[i]? = some as[i] := List.getElem?_eq_getElem hi'
      have ex : x = .ref as[i] := by rw [List.getElem?_map, ha] at yv; exact (Option.some.inj yv).symm
      subst ex
      obtain ⟨c, hcg⟩ : ∃ c, cs[i]? = some c := ⟨_, List.getElem?_eq_getElem (by have := hT.1; rw [List.length_map] at this; omega)⟩
      have h2 : H1 as[i] = some (.tup ((rt c N).map nI)) := e.tup (hT.2 i _ _ ha (by rw [List.getElem?_map, hcg]; rfl))
      have hsum : (cs.take (i + 1)).sum = (cs.take i).sum + c := by rw [List.take_add_one, hcg, List.sum_append]; simp
      have hle : (cs.take i).sum + c ≤ 100000 := by rw [← hsum]; exact Nat.le_trans (sum_take_le cs (i + 1)) hc
      have b1 := tp_le (cs.take i).sum N
      have b2 := tp_le c N
      have b3 := bt_le (cs.take i).sum N
      have b4 := bt_le c N
      refine ⟨_, rfl, _, rfl, t1, as[i], tp (cs.take i).sum N, bt (cs.take i).sum N, tp c N, bt c N, rfl, st_of h1, st_of h2, by omega, by omega, bt_pos hN, bt_pos hN, by omega, by omega, fun r H3 hr3 e3 h3 => ?_⟩
      rw [rt_plus hN, ← hsum] at h3
      exact ⟨r, _, rfl, e.trans e3, e.free r hr3, h3⟩
    · obtain ⟨t1, z, rfl, e, ht1, h1⟩ := pp
      rw [List.length_map, hT.1, List.length_map, List.take_length] at h1
      exact ⟨_, rfl, q t1 H' ht1 e h1⟩
end
end Px
namespace Px
open PySem L2 PyProof.Rows Kx Tx Ma

section
variable {P : Program} {w : World} {K : PySem.W.Frag} {mg : Str → Option Value} {base : Heap}
def sp_need_index (K : PySem.W.Frag) (Pt : Addr) : Sp := fun vs H Q _ => ∃ (n : Nat) (a : Addr) (ws : List Nat) (i : Nat), vs = [nI n, .ref a, nI i] ∧ 2 ≤ n ∧ n ≤ 9 ∧ Rd H a (.tup (ws.map nI)) ∧ GxR.TabG H Pt ∧ ws.length ≤ n ∧ (∀ x ∈ ws, x < n) ∧ i < ws.length ∧ RetV .non H Q
theorem c_need_index {Pt : Addr} (D : D0 K mg "need_index" s_need_index ["size", "wishes", "index"]) (T : Blt mg) (C_is_in : Ca P w K mg base 1 "is_in" sp_is_in) (C_need_wishes : Ca P w K mg base 6 "need_wishes" (sp_need_wishes K Pt)) :
    Ca P w K mg base 7 "need_index" (sp_need_index K Pt) := by
  refine D.cal sc_need_index (fun vs H Q E h => ?_) (fun f cdv A outer s H vs Q E hr h => ?_)
  · obtain ⟨n, a, ws, i, rfl, _⟩ := h
    rfl
  · obtain ⟨n, a, ws, i, rfl, h1, h2, ha, hP, hl, hw, hi, q⟩ := h
    refine ⟨_, (pss_cons (ps_expr (pe_ca C_need_wishes hr (by decide) (by rfl) (pa_cons (pv 0) (pa_cons (pv 1) pa_nil))))
      (pss_one (ps_if (pt_not (pt_val (pe_ca C_is_in hr (by decide) (by rfl) (pa_cons (pv 2) (pa_cons pe_int (pa_cons (pe_op op_sub (pe_callB (Rx.lenK K) (by rfl) T.len_ (by decide +kernel) (pa_cons (pv 1) pa_nil)) pe_int) pa_nil))))))
        (pss_one ps_never) pss_nil))), ?_⟩
    refine ⟨_, rfl, _, rfl, n, a, ws, rfl, h1, h2, ha, hP, hl, hw, fun H2 e => ?_⟩
    refine ⟨_, rfl, _, rfl, a, _, rfl, .inr (e.st (.inl ha)), _, _, rfl, rfl, nI i, 0, _, rfl, .inl ⟨i, rfl, true, ?_, iteF (q H2 e)⟩⟩
    rw [List.length_map, decide_eq_true (show (0 : Int) ≤ i by omega), decide_eq_true (show (i : Int) ≤ (ws.length : Int) - 1 by omega)]
    rfl
def sp_need_goal (K : PySem.W.Frag) (P1 P2 : Addr) : Sp := fun vs H Q _ => ∃ (n : Nat) (a g : Addr) (ws G : List Nat), vs = [nI n, .ref a, .ref g] ∧ 2 ≤ n ∧ n ≤ 9 ∧ Rd H a (.tup (ws.map nI)) ∧ Rd H g (.tup (G.map nI)) ∧ GxR.TabG H P1 ∧ GxR.TabG H P2 ∧ ws.length ≤ n ∧ (∀ x ∈ ws, x < n) ∧
  Rise G ∧ (∀ x ∈ G, x < n) ∧ G.length = ws.length ∧ RetV .non H Q
theorem c_need_goal {P1 P2 : Addr} (D : D0 K mg "need_goal" s_need_goal ["size", "wishes", "goal"]) (T : Blt mg) (C_is_set : Ca P w K mg base 5 "is_set" (sp_is_set K P2)) (C_need_wishes : Ca P w K mg base 6 "need_wishes" (sp_need_wishes K P1)) :
    Ca P w K mg base 7 "need_goal" (sp_need_goal K P1 P2) := by
  refine D.cal sc_need_goal (fun vs H Q E h => ?_) (fun f cdv A outer s H vs Q E hr h => ?_)
  · obtain ⟨n, a, g, ws, G, rfl, _⟩ := h
    rfl
  · obtain ⟨n, a, g, ws, G, rfl, h1, h2, ha, hg, hP1, hP2, hl, hw, hrise, hG, hlen, q⟩ := h
    refine ⟨_, (pss_cons (ps_expr (pe_ca C_need_wishes hr (by decide) (by rfl) (pa_cons (pv 0) (pa_cons (pv 1) pa_nil))))
      (pss_one (ps_if (PW.pt (pw_or (pt_not (pt_val (pe_ca C_is_set hr (by decide) (by rfl) (pa_cons (pv 0) (pa_cons (pv 2) pa_nil))))) (pw_or1 (pt_cmpR op_ne (pe_callB (Rx.lenK K) (by rfl) T.len_ (by decide +kernel) (pa_cons (pv 2) pa_nil)) (pe_callB (Rx.lenK K) (by rfl) T.len_ (by decide +kernel) (pa_cons (pv 1) pa_nil)) (nomark _)))))
        (pss_one ps_never) pss_nil))), ?_⟩
    refine ⟨_, rfl, _, rfl, n, a, ws, rfl, h1, h2, ha, hP1, hl, hw, fun H2 e => ?_⟩
    refine ⟨_, rfl, _, rfl, n, g, G, rfl, e.rdT hg, e.tab _ hP2, by omega, hrise, hG, fun H3 e3 => ⟨true, rfl, iteF ?_⟩⟩
    refine ⟨_, rfl, g, _, rfl, .inr ((e.trans e3).st (.inl hg)), _, rfl, a, _, rfl, .inr ((e.trans e3).st (.inl ha)), rfl, _, rfl, ?_⟩
    rw [List.length_map, List.length_map, hlen]
    exact iteNS rfl (q H3 (e.trans e3))
def sp_orders : Sp := fun vs H Q _ => ∃ k : Nat, vs = [nI k] ∧ k ≤ 9 ∧ Q (nI (fac k)) H
theorem c_orders (D : D0 K mg "orders" s_orders ["many"]) (T : Blt mg) : Ca P w K mg base 1 "orders" sp_orders := by
  refine D.cal sc_orders (fun vs H Q E h => ?_) (fun f cdv A outer s H vs Q E hr h => ?_)
  · obtain ⟨k, rfl, _⟩ := h
    rfl
  · obtain ⟨k, rfl, h9, q⟩ := h
    refine ⟨_, (pss_cons (ps_set (i := 1) sc_orders.nd rfl (by first | exact Or.inl rfl | exact Or.inr rfl) pe_int)
      (pss_cons (ps_for PassesOwn.never rfl (pi_range1 (by rfl) T.range_ (pa_cons (pv 0) pa_nil)) (pg_name (i := 2) sc_orders.nd rfl (by first | exact Or.inl rfl | exact Or.inr rfl))
        (pss_one (ps_set (i := 1) sc_orders.nd rfl (by first | exact Or.inl rfl | exact Or.inr rfl) (pe_op op_mul (pv 1) (pe_op op_add (pv 2) pe_int)))))
      (pss_one (ps_ret (pv 1))))), ?_⟩
    refine ⟨_, rfl, (k : Int), rfl, by omega, by omega, ?_⟩
    refine for_it (walk_range (lo := 0) (n := (k : Int).toNat)) (fun i σ' H' => H' = H ∧ ∃ z, σ' = [some (nI k), some (nI (fac i)), z]) ⟨rfl, none, rfl⟩ (fun _ _ _ _ _ => True.intro) (fun i x σ' H0 H1 hi p y => ?_) (fun σ' H' p => ?_)
    · obtain ⟨rfl, z, rfl⟩ := p
      obtain ⟨rfl, rfl⟩ := y
      have hf := fac_le (k := i) (by omega)
      refine ⟨_, rfl, _, rfl, _, _, rfl, rfl, _, _, rfl, rfl, .inl ⟨by omega, by omega⟩, rfl, some (V.int (0 + (i : Int))), ?_⟩
      show _ = [some (nI k), some (nI (fac i * (i + 1))), some (V.int (0 + (i : Int)))]
      have e : V.int ((fac i : Int) * (0 + (i : Int) + 1)) = nI (fac i * (i + 1)) := by
        unfold nI
        rw [Int.natCast_mul, Int.zero_add]
        rfl
      rw [← e]
      rfl
    · obtain ⟨rfl, z, rfl⟩ := p
      rw [show (k : Int).toNat = k by omega]
      exact ⟨_, rfl, q⟩
end
end Px
namespace Px
open PySem L2 PyProof.Rows Kx Tx Ma

theorem giv_list (xs : List Nat) (p : Nat → Bool) (h : Nat → V) : giv xs.length (fun i => p (xs.getD i 0)) (fun i => h (xs.getD i 0)) = (xs.filter p).map h := by
  have e : xs = (List.range xs.length).map (fun i => xs.getD i 0) := by
    apply List.ext_getElem
    · rw [List.length_map, List.length_range]
    · intro i h1 h2
      rw [List.getElem_map, List.getElem_range, List.getD_eq_getElem?_getD, List.getElem?_eq_getElem h1]
      rfl
  unfold giv
  conv => rhs; rw [e]
  rw [List.filter_map, List.map_map]
  rfl
theorem getD_of {xs : List Nat} {i k : Nat} (h : xs[i]? = some k) : xs.getD i 0 = k := by
  rw [List.getD_eq_getElem?_getD, h]; rfl
theorem get_getD {xs : List Nat} {i : Nat} (h : i < xs.length) : xs[i]? = some (xs.getD i 0) := by
  rw [List.getD_eq_getElem?_getD, List.getElem?_eq_getElem h]; rfl
theorem idx_spec {b : List Nat} {x : Nat} (h : x ∈ b) : b[b.idxOf x]? = some x ∧ ∀ (m : Nat) (z' : V), m < b.idxOf x → (b.map nI)[m]? = some z' → eqV z' (nI x) = false := by
  have hl : b.idxOf x < b.length := List.idxOf_lt_length_iff.mpr h
  refine ⟨by rw [List.getElem?_eq_getElem hl, List.getElem_idxOf hl], fun m z' hm hz => ?_⟩
  obtain ⟨k, hk, rfl⟩ := nI_get hz
  have hne : k ≠ x := by
    intro e
    subst e
    obtain ⟨_, hk⟩ := List.getElem?_eq_some_iff.mp hk
    have := List.not_of_lt_findIdx (p := (· == k)) (xs := b) hm
    rw [hk] at this
    simp at this
  show ((k : Int) == (x : Int)) = false
  rw [beq_eq_false_iff_ne]
  omega
theorem gL {wi : TI} {g : TG} {tt : TT} {te : TE} {vs : List Nat} {σ : L2.St} {H : Hp} {Q : VK} (h : ∀ Q' : VK, (∀ v H, Q v H → Q' v H) → tLc wi g tt te vs σ H Q') : tLc wi g tt te vs σ H Q := h Q fun _ _ q => q
theorem gG {wi : TI} {te : TE} {sv : Bool} {P : Addr} {j : Nat} {σ : L2.St} {H : Hp} {Q : VK} (h : ∀ Q' : VK, (∀ v H, Q v H → Q' v H) → Gx.tGen sv P wi te j σ H Q') : Gx.tGen sv P wi te j σ H Q := h Q fun _ _ q => q
theorem perm_map_ex {α β : Type} {f : α → β} {ys xs : List β} (h : ys.Perm xs) : ∀ zs : List α, xs = zs.map f → ∃ zs' : List α, zs'.Perm zs ∧ ys = zs'.map f := by
  induction h with
  | nil =>
    intro zs e
    cases zs with
    | nil => exact ⟨[], List.Perm.nil, rfl⟩
    | cons a l => cases e
  | cons x h ih =>
    intro zs e
    cases zs with
    | nil => cases e
    | cons a l =>
      rw [List.map_cons] at e
      obtain ⟨rfl, e2⟩ := List.cons.inj e
      obtain ⟨l', p, e3⟩ := ih l e2
      exact ⟨a :: l', p.cons a, by rw [List.map_cons, e3]⟩
  | swap x y l =>
    intro zs e
    match zs, e with
    | a :: b :: l', e =>
      simp only [List.map_cons, List.cons.injEq] at e
      obtain ⟨rfl, rfl, rfl⟩ := e
      exact ⟨b :: a :: l', List.Perm.swap a b l', rfl⟩
  | trans h1 h2 ih1 ih2 =>
    intro zs e
    obtain ⟨z2, p2, e2⟩ := ih2 zs e
    obtain ⟨z1, p1, e1⟩ := ih1 z2 e2
    exact ⟨z1, p1.trans p2, e1⟩
theorem go_name {i : Nat} {v : V} {σ : L2.St} {H : Hp} {Q : L2.St → Hp → Prop} (h : Q (σ.set i (some v)) H) : gName i v σ H Q := h
theorem go_seq {t u : TS} {D : Ends} {σ : L2.St} {H : Hp} (h : t { D with nx := u D } σ H) : tSeq t u D σ H := h
theorem go_asg {te : TE} {g : TG} {D : Ends} {σ : L2.St} {H : Hp} (h : te σ H fun x H1 => g x σ H1 D.nx) : tAsg te g D σ H := h
theorem go_cb {r : List V → Hp → VK → Prop} {t : TA} {σ : L2.St} {H : Hp} {Q : VK} (h : t σ H fun vs H1 => r vs H1 Q) : tCB r t σ H Q := h
theorem go_cons {ta : TE} {tr : TA} {σ : L2.St} {H : Hp} {Q : List V → Hp → Prop} (h : ta σ H fun x H1 => tr σ H1 fun xs H2 => Q (x :: xs) H2) : tCons ta tr σ H Q := h
theorem go_op {r : R2} {ta tb : TE} {σ : L2.St} {H : Hp} {Q : VK} (h : ta σ H fun x H1 => tb σ H1 fun y H2 => r x y H2 Q) : tOp r ta tb σ H Q := h
theorem go_ifs {c : TT} {t u : TS} {D : Ends} {σ : L2.St} {H : Hp} (h : c σ H fun b H1 => if b = true then t D σ H1 else u D σ H1) : tIfS c t u D σ H := h
theorem go_ret {te : TE} {D : Ends} {σ : L2.St} {H : Hp} (h : te σ H D.rt) : tRet te D σ H := h
section
variable {P : Program} {w : World} {K : PySem.W.Frag} {mg : Str → Option Value} {base : Heap}
def sp_is_kept (K : PySem.W.Frag) (Pt : Addr) : Sp := fun vs H Q _ => ∃ (n : Nat) (a g k : Addr) (ws G ks : List Nat), vs = [nI n, .ref a, .ref g, .ref k] ∧ SqT K H a (ws.map nI) ∧ SqT K H g (G.map nI) ∧ SqL K H k (ks.map nI) ∧ GxR.TabG H Pt ∧
  Rise G ∧ n ≤ 9 ∧ 0 < n ∧ (∀ x ∈ G, x < n) ∧ (∀ i ∈ ks, i < ws.length) ∧ ks.length ≤ 1000 ∧ RetV (.bl (keptB n ws G ks)) H Q
theorem ranks_eq (ws b ks : List Nat) : (ranks ws b ks).map nI = (ks.filter fun i => decide (ws.getD i 0 ∈ b)).map fun i => nI (b.idxOf (ws.getD i 0)) := by
  unfold ranks at_
  rw [List.filter_map, List.map_map, List.map_map]
  rfl
theorem bps_mem {n : Nat} {G b : List Nat} (h9 : n ≤ 9) (h : b ∈ bps n G) : b.length ≤ 100 := by
  unfold bps at h
  obtain ⟨⟨f, l⟩, h1, rfl⟩ := List.mem_map.mp h
  unfold row
  rw [List.length_map, List.length_range]
  exact blocks_le h9 h1
theorem all_take {α : Type} {p : α → Bool} {l : List α} (h : ∀ (i : Nat) (x : α), i < l.length → l[i]? = some x → p x = true) : l.all p = true := by
  rw [List.all_eq_true]
  intro x hx
  obtain ⟨i, hi, rfl⟩ := List.mem_iff_getElem.mp hx
  exact h i _ hi (List.getElem?_eq_getElem hi)
theorem c_is_kept {c Pt : Addr} (D : D1 K mg "is_kept" s_is_kept ["size", "wishes", "goal", "kept"] c) (TB : GxR.TabB base mg c Pt) (T : Blt mg) (C_block_places : Ca P w K mg base 2 "block_places" (sp_block_places K)) : Ca P w K mg base 6 "is_kept" (sp_is_kept K Pt) := by
  refine D.cal sc_is_kept (fun vs H Q E h => ?_) (fun f A outer s H vs Q E hr h => ?_)
  · obtain ⟨n, a, g, k, ws, G, ks, rfl, _⟩ := h
    rfl
  · obtain ⟨n, a, g, k, ws, G, ks, rfl, ha, hg, hk, hP, hrise, h9, h0, hw, hks, hkl, q⟩ := h
    refine ⟨_, (pss_cons (ps_for PassesOwn.never rfl (Rx.piL K (pe_ca C_block_places hr (by decide) (by rfl) (pa_cons (pv 0) (pa_cons (pv 2) pa_nil)))) (pg_name (i := 4) sc_is_kept.nd rfl (by first | exact Or.inl rfl | exact Or.inr rfl))
        (pss_cons (ps_set (i := 5) sc_is_kept.nd rfl (by first | exact Or.inl rfl | exact Or.inr rfl) (pe_callB (Rx.srtI K) (by rfl) T.sorted_ (by decide +kernel) (pa_cons (pe_lc (own := [("index", 6)]) (by rfl) sc_is_kept.nd (Rx.piL K (pv 3)) (blkOk_by (own := [("index", 6)]) (by rfl)) (fun _ _ _ _ _ => (pg_name (i := 6) sc_is_kept.nd rfl (by first | exact Or.inl rfl | exact Or.inr rfl))) (fun _ _ _ _ _ => pts_one (pt_cmpR (Rx.inS K) (pe_ix (Rx.ixT K) (pv 1) (pv 6) (fun _ _ => rfl)) (pv 4) (by rfl))) (fun _ _ _ _ _ => (Rx.bm K PySem.F.plainAttrs_list PySem.F.slot_list_index PySem.F.type_list_index (Rx.idxK K) (pv 4) (pa_cons (pe_ix (Rx.ixT K) (pv 1) (pv 6) (fun _ _ => rfl)) pa_nil)))) pa_nil)))
        (pss_one (ps_if (pt_val (Gx.pe_anyG hr (by rfl) T.any_ TB rfl rfl sc_is_kept.nd (pi_range1 (by rfl) T.range_ (pa_cons (pe_callB (Rx.lenK K) (by rfl) T.len_ (by decide +kernel) (pa_cons (pv 4) pa_nil)) pa_nil)) (blkOk_by (own := [("at", 7)]) (N := ["size", "wishes", "goal", "kept", "places", "ranks", "index", "at", "rank"]) (sc := defScope s_is_kept) (by decide +kernel)) rfl (by first | exact Or.inl rfl | exact Or.inr rfl) (fun A' _ _ _ _ _ rm => (pe_cmpR op_gt (pe_callB (Rx.lenK K) (by rfl) T.len_ (by decide +kernel) (pa_cons (pe_lc (own := [("rank", 8)]) (by rfl) sc_is_kept.nd (Rx.piL K (pv 5)) (blkOk_by (own := [("rank", 8)]) (by rfl)) (fun _ _ _ _ _ => (pg_name (i := 8) sc_is_kept.nd rfl (by first | exact Or.inl rfl | exact Or.inr rfl))) (fun _ _ _ _ _ => pts_one (pt_cmpR op_ge (pv 8) (pv 7) (nomark _))) (fun _ _ _ _ _ => (pv 8))) pa_nil)) (pe_op op_sub (pe_callB (Rx.lenK K) (by rfl) T.len_ (by decide +kernel) (pa_cons (pv 4) pa_nil)) (pv 7)) (nomark _)))))
          (pss_one (ps_ret pe_bl)) pss_nil))))
      (pss_one (ps_ret (Gx.pe_allG hr (by rfl) T.all_ TB rfl rfl sc_is_kept.nd (Rx.piL K (pv 3)) (blkOk_by (own := [("index", 6)]) (N := ["size", "wishes", "goal", "kept", "places", "ranks", "index", "at", "rank"]) (sc := defScope s_is_kept) (by decide +kernel)) rfl (by first | exact Or.inl rfl | exact Or.inr rfl) (fun A' _ _ _ _ _ rm => (pe_cmpR (Rx.inS K) (pe_ix (Rx.ixT K) (pv 1) (pv 6) (fun _ _ => rfl)) (pv 2) (by rfl))))))), ?_⟩
    refine ⟨_, rfl, _, rfl, n, g, G, rfl, hg, hrise, h9, h0, hw, fun p bs H2 hp e2 hpl hbs => ⟨p, rfl, ⟨_, sl_of hpl⟩, ?_⟩⟩
    have hlen : bs.length = (bps n G).length := hbs.1
    refine for_it (walk_list (K := K) (a := p) (xs := bs.map V.ref)) (fun i σ' H' => Ex H2 H' ∧ (∃ y z, σ' = [some (nI n), some (.ref a), some (.ref g), some (.ref k), y, z, none, none, none]) ∧ ∀ b ∈ (bps n G).take i, blockOk ws ks b = true)
      ⟨Ex.refl _, ⟨none, none, rfl⟩, fun b hb => by simp at hb⟩ (fun i σ' H' _ p' => p'.1.sl (sl_of hpl)) (fun i x σ' H0 H1 hi p' y => ?_) (fun σ' H' p' => ?_)
    · obtain ⟨e, ⟨y1, z1, rfl⟩, hok⟩ := p'
      obtain ⟨rfl, yv⟩ := y
      have hi' : i < bs.length := by rw [List.length_map] at hi; exact hi
      have hb1 : bs[i]? = some bs[i] := List.getElem?_eq_getElem hi'
      obtain ⟨b, hb2⟩ : ∃ b, (bps n G)[i]? = some b := ⟨_, List.getElem?_eq_getElem (by omega)⟩
      have ex : x = .ref bs[i] := by
        have e := yv
        rw [List.getElem?_map, hb1] at e
        exact (Option.some.inj e).symm
      subst ex
      have hbm := List.mem_of_getElem? hb2
      have hb100 := bps_mem h9 hbm
      have hpb : H1 bs[i] = some (.lst (b.map nI)) := e.lst (hbs.2 i _ b hb1 hb2)
      have eb := e2.trans e
      refine go_name (go_seq (go_asg (go_cb (go_cons (gL fun Q1 hQ1 => ?_)))))
      refine ⟨.ref k, rfl, k, rfl, ⟨_, eb.sl hk⟩, ?_⟩
      refine lc_vals (fun i => decide (ws.getD (ks.getD i 0) 0 ∈ b)) (fun i => nI (b.idxOf (ws.getD (ks.getD i 0) 0))) (walk_list (K := K) (a := k) (xs := ks.map nI)) (fun H' e' => (eb.trans e').sl hk) (by rw [List.length_map]; omega) (fun j x H3 H4 hj e3 y Ry Rn q1 q2 => ?_) (fun D3 H3 nD e3 hD => ?_)
      · obtain ⟨rfl, yv⟩ := y
        obtain ⟨v, hv, rfl⟩ := nI_get yv
        have hvl := hks v (List.mem_of_getElem? hv)
        rw [getD_of hv] at q1 q2
        have hwv : (ws.map nI)[v]? = some (nI (ws.getD v 0)) := get_nI (get_getD hvl)
        have ha4 := (eb.trans e3).st ha
        have hb4 : H4 bs[i] = some (.lst (b.map nI)) := e3.lst hpb
        refine ⟨rfl, ?_⟩
        refine ⟨_, rfl, _, rfl, a, _, v, nI (ws.getD v 0), rfl, rfl, ha4, atI_nat hwv, _, rfl, bs[i], _, rfl, .inl (sl_of hb4), rfl, flat_nI b, _, rfl, ?_⟩
        show if inV (nI (ws.getD v 0)) (b.map nI) = true then _ else _
        rw [inV_nI]
        by_cases hin : ws.getD v 0 ∈ b
        · rw [decide_eq_true hin] at q1 ⊢
          obtain ⟨i1, i2⟩ := idx_spec hin
          refine iteT ?_
          refine ⟨.ref bs[i], rfl, .inl ⟨rfl, _, .inl (.inl hb4)⟩, _, rfl, _, rfl, a, _, v, nI (ws.getD v 0), rfl, rfl, ha4, atI_nat hwv, bs[i], _, nI (ws.getD v 0), b.idxOf (ws.getD v 0), nI (ws.getD v 0), rfl, rfl, sl_of hb4, rfl, flat_nI b, get_nI i1, beq_self_eq_true _, i2, ?_⟩
          exact q1 rfl _ (Ex.refl _)
        · rw [decide_eq_false hin] at q2 ⊢
          exact q2 rfl _ (Ex.refl _)
      · refine hQ1 _ _ ?_
        have eL : giv (ks.map nI).length (fun i => decide (ws.getD (ks.getD i 0) 0 ∈ b)) (fun i => nI (b.idxOf (ws.getD (ks.getD i 0) 0))) = ((ranks ws b ks).map Int.ofNat).map V.int := by
          rw [List.length_map, giv_list ks (fun i => decide (ws.getD i 0 ∈ b)) (fun i => nI (b.idxOf (ws.getD i 0))), ← ranks_eq, List.map_map]
          rfl
        rw [eL] at hD
        refine ⟨D3, _, rfl, sl_of hD, fun ns' q4 hperm _ hq4 => ?_⟩
        obtain ⟨rs, hrs, rfl⟩ := perm_map_ex hperm _ rfl
        have e4 : Ex H1 (upd H3 q4 (.lst ((rs.map Int.ofNat).map V.int))) := e3.trans (Ex.new hq4)
        have hq : upd H3 q4 (.lst ((rs.map Int.ofNat).map V.int)) q4 = some (.lst (rs.map nI)) := by
          rw [upd_same, List.map_map]
          rfl
        have hrl : rs.length ≤ 1000 := by
          rw [hrs.length_eq]
          unfold ranks at_
          rw [List.length_map]
          refine Nat.le_trans (List.length_filter_le _ _) ?_
          rw [List.length_map]
          exact hkl
        generalize upd H3 q4 (.lst ((rs.map Int.ofNat).map V.int)) = H4 at e4 hq
        have e14 := eb.trans e4
        have hb4 : H4 bs[i] = some (.lst (b.map nI)) := e4.lst hpb
        refine go_name ?_
        dsimp only
        refine go_ifs (go_B (gG fun Q2 hQ2 => ?_))
        refine ⟨_, rfl, bs[i], _, rfl, .inl (sl_of hb4), _, rfl, by simp only [List.length_map]; omega, by simp only [List.length_map]; omega, ?_⟩
        have eN : (((b.map nI).length : Nat) : Int).toNat = b.length := by rw [List.length_map]; omega
        rw [eN]
        refine gen_rng (fun j => decide (b.length - j < (rs.filter fun r => decide (j ≤ r)).length)) (e14.tab _ hP) (fun j H5 hj e5 R kR => ?_) (fun hall H5 e5 => ?_) (fun j hj hf H5 e5 => ?_)
        · refine go_op (go_cb (go_cons (gL fun Q3 hQ3 => ?_)))
          have hq5 : H5 q4 = some (.lst (rs.map nI)) := e5.lst hq
          refine ⟨.ref q4, rfl, q4, rfl, ⟨_, sl_of hq5⟩, ?_⟩
          refine lc_vals (fun t => decide (j ≤ rs.getD t 0)) (fun t => nI (rs.getD t 0)) (walk_list (K := K) (a := q4) (xs := rs.map nI)) (fun H' e' => e'.sl (sl_of hq5)) (by rw [List.length_map]; omega) (fun t x H6 H7 ht e6 y Ry Rn q1 q2 => ?_) (fun D6 H6 nD6 e6 hD6 => ?_)
          · obtain ⟨rfl, yv⟩ := y
            obtain ⟨v, hv, rfl⟩ := nI_get yv
            rw [getD_of hv] at q1 q2
            refine ⟨rfl, ?_⟩
            refine ⟨_, rfl, _, rfl, _, _, rfl, rfl, _, rfl, ?_⟩
            by_cases hjv : j ≤ v
            · rw [decide_eq_true hjv] at q1
              rw [decide_eq_true (show (j : Int) ≤ v by omega)]
              exact iteT ⟨_, rfl, q1 rfl _ (Ex.refl _)⟩
            · rw [decide_eq_false hjv] at q2
              rw [decide_eq_false (show ¬ (j : Int) ≤ v by omega)]
              exact iteF (q2 rfl _ (Ex.refl _))
          · refine hQ3 _ _ ?_
            refine ⟨D6, _, rfl, .inl (sl_of hD6), ?_⟩
            refine ⟨_, rfl, bs[i], _, rfl, .inl (sl_of ((e5.trans e6).lst hb4)), _, rfl, _, _, rfl, rfl, _, _, rfl, rfl, ?_⟩
            have eL2 : (giv (rs.map nI).length (fun t => decide (j ≤ rs.getD t 0)) (fun t => nI (rs.getD t 0))).length = (rs.filter fun r => decide (j ≤ r)).length := by
              rw [List.length_map, giv_list rs (fun r => decide (j ≤ r)) nI, List.length_map]
            rw [eL2, List.length_map]
            have eB : decide ((b.length : Int) - (j : Int) < ((rs.filter fun r => decide (j ≤ r)).length : Int)) = decide (b.length - j < (rs.filter fun r => decide (j ≤ r)).length) := by
              rw [decide_eq_decide]
              omega
            show R (V.bl (decide ((b.length : Int) - (j : Int) < ((rs.filter fun r => decide (j ≤ r)).length : Int)))) H6
            rw [eB]
            exact kR H6 e6
        · refine hQ2 _ _ ⟨false, rfl, iteF ?_⟩
          refine ⟨e.trans (e4.trans e5), ⟨_, _, rfl⟩, fun b' hb' => ?_⟩
          rw [List.take_add_one, hb2] at hb'
          rcases List.mem_append.mp hb' with hb' | hb'
          · exact hok b' hb'
          · have e6 : b' = b := by simpa using hb'
            subst e6
            unfold blockOk
            rw [List.all_eq_true]
            intro t ht
            have h1 := hall t (List.mem_range.mp ht)
            have h2 := of_decide_eq_false h1
            rw [decide_eq_true_iff, ← (hrs.filter _).length_eq]
            omega
        · refine hQ2 _ _ ⟨true, rfl, iteT ?_⟩
          have eK : keptB n ws G ks = false := by
            unfold keptB
            have : (bps n G).all (blockOk ws ks) = false := by
              rw [List.all_eq_false]
              refine ⟨b, hbm, ?_⟩
              unfold blockOk
              rw [Bool.not_eq_true, List.all_eq_false]
              refine ⟨j, List.mem_range.mpr hj, ?_⟩
              have h2 := of_decide_eq_true hf
              rw [decide_eq_true_iff, ← (hrs.filter _).length_eq]
              omega
            rw [this]
            rfl
          rw [eK] at q
          exact q H5 (e14.trans e5)
    · obtain ⟨e, ⟨y1, z1, rfl⟩, hok⟩ := p'
      have eb := e2.trans e
      have hall : (bps n G).all (blockOk ws ks) = true := by
        rw [List.all_eq_true]
        intro b hb
        rw [List.length_map, hlen, List.take_length] at hok
        exact hok b hb
      have hkept : keptB n ws G ks = (at_ ws ks).all fun x => decide (x ∈ G) := by
        unfold keptB
        rw [hall, Bool.true_and]
      rw [hkept] at q
      refine gen_lst (K := K) (fun i => decide (ws.getD (ks.getD i 0) 0 ∈ G)) rfl (eb.sl hk) (eb.tab _ hP) (fun i x H1 hi e1 R kR => ?_) (fun hT H5 e5 => ?_) (fun i hi hF H5 e5 => ?_)
      · obtain ⟨v, hv, rfl⟩ := nI_get hi
        rw [getD_of hv] at kR
        have hvl := hks v (List.mem_of_getElem? hv)
        have hwv : (ws.map nI)[v]? = some (nI (ws.getD v 0)) := get_nI (get_getD hvl)
        refine ⟨_, rfl, _, rfl, a, _, v, nI (ws.getD v 0), rfl, rfl, (eb.trans e1).st ha, atI_nat hwv, _, rfl, g, _, rfl, .inr ((eb.trans e1).st hg), rfl, flat_nI G, ?_⟩
        show R (V.bl (inV (nI (ws.getD v 0)) (G.map nI))) H1
        rw [inV_nI]
        exact kR H1 (Ex.refl _)
      · have : ((at_ ws ks).all fun x => decide (x ∈ G)) = true := by
          unfold at_
          rw [List.all_eq_true]
          intro x hx
          obtain ⟨k', hk', rfl⟩ := List.mem_map.mp hx
          obtain ⟨t, ht, rfl⟩ := List.mem_iff_getElem.mp hk'
          have := hT t (by rw [List.length_map]; exact ht)
          rw [getD_of (List.getElem?_eq_getElem ht)] at this
          exact this
        rw [this] at q
        exact q H5 (eb.trans e5)
      · have : ((at_ ws ks).all fun x => decide (x ∈ G)) = false := by
          unfold at_
          rw [List.all_eq_false]
          rw [List.length_map] at hi
          have hge := List.getElem?_eq_getElem hi
          rw [getD_of hge] at hF
          exact ⟨ws.getD ks[i] 0, List.mem_map.mpr ⟨ks[i], List.getElem_mem hi, rfl⟩, by rw [show decide (ws.getD ks[i] 0 ∈ G) = false from hF]; exact Bool.false_ne_true⟩
        rw [this] at q
        exact q H5 (eb.trans e5)
/-- pairs at addresses -/
def ZZ (H : Hp) (zs : List (Addr × Nat × Nat)) : Prop := ∀ z ∈ zs, H z.1 = some (.tup [nI z.2.1, nI z.2.2])
def rf (z : Addr × Nat × Nat) : V := .ref z.1
theorem ZZ.ex {H H' : Hp} {zs : List (Addr × Nat × Nat)} (h : ZZ H zs) (x : Ex H H') : ZZ H' zs := fun z hz => x.tup (h z hz)
theorem ZZ.wr {H : Hp} {zs : List (Addr × Nat × Nat)} {o : Addr} {ys : List V} {u : HO} (h : ZZ H zs) (ho : H o = some (.lst ys)) : ZZ (upd H o u) zs :=
  fun z hz => by rw [upd_ne (ne_of (h z hz) ho (fun q => by cases q))]; exact h z hz
def idxs (m : Nat) (ws b : List Nat) : List Nat := (List.range m).filter fun i => decide (ws.getD i 0 ∈ b)
theorem idxs_succ (m : Nat) (ws b : List Nat) : idxs (m + 1) ws b = if ws.getD m 0 ∈ b then idxs m ws b ++ [m] else idxs m ws b := by
  unfold idxs
  rw [List.range_succ, List.filter_append]
  by_cases h : ws.getD m 0 ∈ b
  · rw [if_pos h, List.filter_cons, if_pos (decide_eq_true h)]; rfl
  · rw [if_neg h, List.filter_cons, if_neg (show ¬ decide (ws.getD m 0 ∈ b) = true from fun z => h (of_decide_eq_true z))]; simp
def sp_ranked (K : PySem.W.Frag) : Sp := fun vs H Q _ => ∃ (p a : Addr) (b ws : List Nat), vs = [.ref p, .ref a] ∧ SqL K H p (b.map nI) ∧ SqT K H a (ws.map nI) ∧ ws.length ≤ 1000 ∧
  ∀ o zs H2, H o = none → Ex H H2 → H2 o = some (.lst (zs.map rf)) → ZZ H2 zs → zs.map (fun z => z.2.2) = idxs ws.length ws b → Q (.ref o) H2
theorem c_ranked (D : D0 K mg "ranked" s_ranked ["places", "wishes"]) (T : Blt mg) : Ca P w K mg base 1 "ranked" (sp_ranked K) := by
  refine D.cal sc_ranked (fun vs H Q E h => ?_) (fun f cdv A outer s H vs Q E hr h => ?_)
  · obtain ⟨p, a, b, ws, rfl, _⟩ := h
    rfl
  · obtain ⟨p, a, b, ws, rfl, hp, ha, hl, q⟩ := h
    refine ⟨_, (pss_one (ps_ret (pe_lc (own := [("index", 2), ("wish", 3)]) (by rfl) sc_ranked.nd (En.pi_enT K (by rfl) T.enumerate_ (pa_cons (pv 1) pa_nil)) (blkOk_by (own := [("index", 2), ("wish", 3)]) (by rfl)) (fun _ _ _ _ _ => (Rx.pgT (n := 2) K rfl (pgs_cons (pg_name (i := 2) sc_ranked.nd rfl (by first | exact Or.inl rfl | exact Or.inr rfl)) (pgs_cons (pg_name (i := 3) sc_ranked.nd rfl (by first | exact Or.inl rfl | exact Or.inr rfl)) pgs_nil)))) (fun _ _ _ _ _ => pts_one (pt_cmpR (Rx.inS K) (pv 3) (pv 0) (by rfl))) (fun _ _ _ _ _ => (pe_tup (pa_cons (Rx.bm K PySem.F.plainAttrs_list PySem.F.slot_list_index PySem.F.type_list_index (Rx.idxK K) (pv 0) (pa_cons (pv 3) pa_nil)) (pa_cons (pv 2) pa_nil))))))), ?_⟩
    refine go_ret (gL fun Q1 hQ1 => ?_)
    refine ⟨_, rfl, a, _, rfl, ha, ?_⟩
    refine lc_gen (fun D i acc H' => ∃ zs, acc = zs.map rf ∧ ZZ H' zs ∧ zs.map (fun z => z.2.2) = idxs i ws b) (En.walk_enT (K := K) (a := a) (xs := ws.map nI)) (fun H' e => e.st ha) (by rw [List.length_map]; omega)
      (fun D _ => ⟨[], rfl, fun z hz => by simp at hz, rfl⟩) (fun D i acc x H3 H4 hi nD e3 hD hA y Ry Rn k1 k2 => ?_) (fun D acc H' nD e hD _ hA => ?_)
    · obtain ⟨T1, x1, x2, rfl, hT1, rfl, hx1, yv⟩ := y
      obtain ⟨zs, rfl, hZ, hzi⟩ := hA
      obtain ⟨v, hv, rfl⟩ := nI_get yv
      have ex1 : x1 = nI i := (Option.some.inj hx1).symm
      subst ex1
      have hv' : v = ws.getD i 0 := (getD_of hv).symm
      have e4 : Ex H3 (upd H3 T1 (.tup [nI i, nI v])) := Ex.new hT1
      have e14 := e3.trans e4
      have hp4 := e14.sl hp
      refine ⟨T1, _, rfl, st_of upd_same, rfl, nI i, _, rfl, nI v, _, rfl, rfl, rfl, ?_⟩
      refine ⟨_, rfl, _, rfl, p, _, rfl, .inl hp4, rfl, flat_nI b, _, rfl, ?_⟩
      show if inV (nI v) (b.map nI) = true then _ else _
      rw [inV_nI]
      by_cases hin : v ∈ b
      · rw [decide_eq_true hin]
        obtain ⟨i1, i2⟩ := idx_spec hin
        refine iteT ?_
        refine ⟨.ref p, rfl, .inl ⟨rfl, _, hp4⟩, _, rfl, p, _, nI v, b.idxOf v, nI v, rfl, rfl, hp4, rfl, flat_nI b, get_nI i1, beq_self_eq_true _, i2, ?_⟩
        refine ⟨_, rfl, by show 2 ≤ sizeLine; decide, fun t ht => ?_⟩
        have e5 : Ex H3 (upd (upd H3 T1 (.tup [nI i, nI v])) t (.tup [nI (b.idxOf v), nI i])) := e4.trans (Ex.new ht)
        refine k1 _ _ e5 ⟨zs ++ [(t, b.idxOf v, i)], by rw [List.map_append]; rfl, ?_, ?_⟩
        · refine ZZ.wr (ys := zs.map rf) ?_ (e5.lst hD)
          intro z hz
          rcases List.mem_append.mp hz with hz | hz
          · exact hZ.ex e5 z hz
          · rw [List.mem_singleton] at hz
            subst hz
            exact upd_same
        · rw [List.map_append, hzi, idxs_succ, if_pos (by rw [← hv']; exact hin)]
          rfl
      · rw [decide_eq_false hin]
        refine iteF ?_
        refine k2 _ e4 ⟨zs, rfl, hZ.ex e4, ?_⟩
        rw [hzi, idxs_succ, if_neg (by rw [← hv']; exact hin)]
    · obtain ⟨zs, rfl, hZ, hzi⟩ := hA
      rw [List.length_map] at hzi
      exact hQ1 _ _ (q D zs H' nD e hD hZ hzi)
end
end Px
namespace Px
open PySem L2 PyProof.Rows Kx Tx Ma
/-- one after another, kept where P allows it -/
def greedy (P : List Nat → Bool) (O : List Nat) : List Nat := O.foldl (fun K i => if P (K ++ [i]) = true then K ++ [i] else K) []
theorem greedy_snoc (P : List Nat → Bool) (O : List Nat) (x : Nat) : greedy P (O ++ [x]) = if P (greedy P O ++ [x]) = true then greedy P O ++ [x] else greedy P O := by
  unfold greedy
  rw [List.foldl_append]
  rfl
theorem greedy_sub (P : List Nat → Bool) : ∀ (O K : List Nat), ∀ i ∈ O.foldl (fun K i => if P (K ++ [i]) = true then K ++ [i] else K) K, i ∈ K ∨ i ∈ O
  | [], K, i, h => .inl h
  | x :: O, K, i, h => by
    rw [List.foldl_cons] at h
    rcases greedy_sub P O _ i h with h | h
    · split at h
      · rcases List.mem_append.mp h with h | h
        · exact .inl h
        · rw [List.mem_singleton] at h; exact .inr (by rw [h]; exact List.mem_cons_self)
      · exact .inl h
    · exact .inr (List.mem_cons_of_mem _ h)
theorem greedy_len (P : List Nat → Bool) : ∀ (O K : List Nat), (O.foldl (fun K i => if P (K ++ [i]) = true then K ++ [i] else K) K).length ≤ K.length + O.length
  | [], K => Nat.le_refl _
  | x :: O, K => by
    rw [List.foldl_cons, List.length_cons]
    refine Nat.le_trans (greedy_len P O _) ?_
    split
    · rw [List.length_append, List.length_singleton]; omega
    · omega
def ordIdx (n : Nat) (ws G : List Nat) : List Nat := (bps n G).flatMap fun b => idxs ws.length ws b
theorem idxs_len (m : Nat) (ws b : List Nat) : (idxs m ws b).length ≤ m := by
  unfold idxs
  refine Nat.le_trans (List.length_filter_le _ _) ?_
  rw [List.length_range]
  exact Nat.le_refl _
theorem idxs_lt {m i : Nat} {ws b : List Nat} (h : i ∈ idxs m ws b) : i < m := by
  unfold idxs at h
  exact List.mem_range.mp (List.mem_filter.mp h).1
section
variable {P : Program} {w : World} {K : PySem.W.Frag} {mg : Str → Option Value} {base : Heap}
def KeptOf (n : Nat) (ws G ks : List Nat) : Prop := (G.length = n → ks = List.range ws.length) ∧ (G.length ≠ n → ∃ O, O.Perm (ordIdx n ws G) ∧ ks = greedy (keptB n ws G) O)
def sp_kept_of (K : PySem.W.Frag) (Pt : Addr) : Sp := fun vs H Q _ => ∃ (n : Nat) (a g : Addr) (ws G : List Nat), vs = [nI n, .ref a, .ref g] ∧ SqT K H a (ws.map nI) ∧ SqT K H g (G.map nI) ∧ GxR.TabG H Pt ∧
  Rise G ∧ n ≤ 9 ∧ 0 < n ∧ (∀ x ∈ G, x < n) ∧ ws.length ≤ n ∧ ∀ ks, KeptOf n ws G ks → RetL (ks.map nI) H Q
theorem c_kept_of {Pt : Addr} (D : D0 K mg "kept_of" s_kept_of ["size", "wishes", "goal"]) (T : Blt mg) (C_block_places : Ca P w K mg base 2 "block_places" (sp_block_places K)) (C_ranked : Ca P w K mg base 1 "ranked" (sp_ranked K))
    (C_is_kept : Ca P w K mg base 6 "is_kept" (sp_is_kept K Pt)) : Ca P w K mg base 7 "kept_of" (sp_kept_of K Pt) := by
  refine D.cal sc_kept_of (fun vs H Q E h => ?_) (fun f cdv A outer s H vs Q E hr h => ?_)
  · obtain ⟨n, a, g, ws, G, rfl, _⟩ := h
    rfl
  · obtain ⟨n, a, g, ws, G, rfl, ha, hg, hP, hrise, h9, h0, hw, hl, q⟩ := h
    refine ⟨_, (pss_cons (ps_if (pt_cmpR op_eq (pe_callB (Rx.lenK K) (by rfl) T.len_ (by decide +kernel) (pa_cons (pv 2) pa_nil)) (pv 0) (nomark _))
        (pss_one (ps_ret (pe_listRg rfl (by rfl) T.list_ (prg_1 (by rfl) T.range_ (pe_callB (Rx.lenK K) (by rfl) T.len_ (by decide +kernel) (pa_cons (pv 1) pa_nil)))))) pss_nil)
      (pss_cons (ps_par (i := 3) (j := 4) (by rfl) sc_kept_of.nd rfl rfl (by decide) rfl rfl (pa_cons (pe_lst pa_nil) (pa_cons (pe_lst pa_nil) pa_nil)) (by rfl))
      (pss_cons (ps_for PassesOwn.never rfl (Rx.piL K (pe_ca C_block_places hr (by decide) (by rfl) (pa_cons (pv 0) (pa_cons (pv 2) pa_nil)))) (pg_name (i := 5) sc_kept_of.nd rfl (by first | exact Or.inl rfl | exact Or.inr rfl))
        (pss_one (ps_set (i := 4) sc_kept_of.nd rfl (by first | exact Or.inl rfl | exact Or.inr rfl) (pe_op op_cat (pv 4) (pe_ca C_ranked hr (by decide) (by rfl) (pa_cons (pv 5) (pa_cons (pv 1) pa_nil)))))))
      (pss_cons (ps_for PassesOwn.never rfl (Rx.piL K (pe_callB (Rx.srtP K) (by rfl) T.sorted_ (by decide +kernel) (pa_cons (pv 4) pa_nil))) (Rx.pgT (n := 2) K rfl (pgs_cons (pg_name (i := 6) sc_kept_of.nd rfl (by first | exact Or.inl rfl | exact Or.inr rfl)) (pgs_cons (pg_name (i := 7) sc_kept_of.nd rfl (by first | exact Or.inl rfl | exact Or.inr rfl)) pgs_nil)))
        (pss_one (ps_if (pt_val (pe_ca C_is_kept hr (by decide) (by rfl) (pa_cons (pv 0) (pa_cons (pv 1) (pa_cons (pv 2) (pa_cons (pe_lst (StX.pa_star (pv 3) (pa_cons (pv 7) pa_nil))) pa_nil))))))
          (pss_one (ps_expr (Rx.bm K PySem.F.plainAttrs_list PySem.F.slot_list_append PySem.F.type_list_append mt_append (pv 3) (pa_cons (pv 7) pa_nil)))) pss_nil)))
      (pss_one (ps_ret (pv 3))))))), ?_⟩
    refine ⟨_, rfl, g, _, rfl, .inr hg, _, rfl, rfl, _, rfl, ?_⟩
    refine ite2 (fun hd => ?_) (fun hd => ?_)
    · have hGn : G.length = n := by
        have := V.int.inj (of_decide_eq_true hd)
        rw [List.length_map] at this; omega
      refine ⟨_, rfl, a, _, rfl, .inr ha, _, rfl, .of_le (by first | omega | (simp only [List.length_map]; omega)) (by first | omega | (simp only [List.length_map]; omega)) (by first | omega | (simp only [List.length_map]; omega)) (by first | omega | (simp only [List.length_map]; omega)), fun p hp => ?_⟩
      rw [List.length_map, rgV_nI]
      exact q _ ⟨fun _ => rfl, fun z => absurd hGn z⟩ p _ hp (Ex.new hp) upd_same
    · have hGn : ¬ G.length = n := fun e => hd (decide_eq_true (by rw [List.length_map, e]; rfl))
      refine ⟨Nat.zero_le _, fun o no => ⟨Nat.zero_le _, fun d nd => ⟨_, _, rfl, ?_⟩⟩⟩
      have nod : o ≠ d := fun e => by
        rw [← e, upd_same] at nd
        cases nd
      have nd0 : H d = none := by rw [upd_ne nod.symm] at nd; exact nd
      have eA : Ex H (upd (upd H o (.lst [])) d (.lst [])) := ((Ex.refl H).mut no).mut nd0
      have hoA : upd (upd H o (.lst [])) d (.lst []) o = some (.lst []) := by rw [upd_ne nod, upd_same]
      have hdA : upd (upd H o (.lst [])) d (.lst []) d = some (.lst []) := upd_same
      generalize upd (upd H o (.lst [])) d (.lst []) = HA at eA hoA hdA
      refine ⟨_, rfl, _, rfl, n, g, G, rfl, eA.st hg, hrise, h9, h0, hw, fun p bs H2 hp e2 hpl hbs => ⟨p, rfl, ⟨_, sl_of hpl⟩, ?_⟩⟩
      have hlen : bs.length = (bps n G).length := hbs.1
      have hb9 : (bps n G).length ≤ 9 := by
        unfold bps
        rw [List.length_map]
        exact blocks_len hrise hw h9
      refine for_it (walk_list (K := K) (a := p) (xs := bs.map V.ref)) (fun i σ' H' => Ex H2 H' ∧ ∃ d' y zs, σ' = [some (nI n), some (.ref a), some (.ref g), some (.ref o), some (.ref d'), y, none, none] ∧
          H' d' = some (.lst (zs.map rf)) ∧ ZZ H' zs ∧ zs.map (fun z => z.2.2) = ((bps n G).take i).flatMap (fun b => idxs ws.length ws b) ∧ zs.length ≤ i * ws.length)
        ⟨Ex.refl _, d, none, [], rfl, e2.lst hdA, fun z hz => by simp at hz, rfl, Nat.zero_le _⟩ (fun i σ' H' _ p' => p'.1.sl (sl_of hpl)) (fun i x σ' H0 H1 hi p' y => ?_) (fun σ' H' p' => ?_)
      · obtain ⟨e, d', y1, zs, rfl, hd', hZ, hzi, hzl⟩ := p'
        obtain ⟨rfl, yv⟩ := y
        have hi' : i < bs.length := by rw [List.length_map] at hi; exact hi
        have hb1 : bs[i]? = some bs[i] := List.getElem?_eq_getElem hi'
        obtain ⟨b, hb2⟩ : ∃ b, (bps n G)[i]? = some b := ⟨_, List.getElem?_eq_getElem (by omega)⟩
        have ex : x = .ref bs[i] := by
          have e := yv
          rw [List.getElem?_map, hb1] at e
          exact (Option.some.inj e).symm
        subst ex
        have hpb : H1 bs[i] = some (.lst (b.map nI)) := e.lst (hbs.2 i _ b hb1 hb2)
        have eb := eA.trans (e2.trans e)
        refine ⟨_, rfl, _, rfl, _, rfl, bs[i], a, b, ws, rfl, sl_of hpb, eb.st ha, by omega, fun o2 z2 H3 no2 e3 ho2 hZ2 hzi2 => ?_⟩
        have hl2 : z2.length ≤ ws.length := by
          have := congrArg List.length hzi2
          rw [List.length_map] at this
          have := idxs_len ws.length ws b
          omega
        have hbound : zs.length ≤ 9 * 9 := Nat.le_trans hzl (Nat.mul_le_mul (by omega) (by omega))
        refine ⟨d', o2, _, _, rfl, rfl, e3.lst hd', ho2, sz_ok (by simp only [List.length_map]; omega), fun t ht => ?_⟩
        refine ⟨e.trans (e3.trans (Ex.new ht)), t, _, zs ++ z2, rfl, by rw [upd_same, List.map_append], ?_, ?_, ?_⟩
        · intro z hz
          rcases List.mem_append.mp hz with hz | hz
          · exact (hZ.ex (e3.trans (Ex.new ht))) z hz
          · exact (hZ2.ex (Ex.new ht)) z hz
        · rw [List.map_append, hzi, hzi2, List.take_add_one, hb2, List.flatMap_append]
          simp
        · rw [List.length_append, Nat.succ_mul]; omega
      · obtain ⟨e, d', y1, zs, rfl, hd', hZ, hzi, hzl⟩ := p'
        have hzi' : zs.map (fun z => z.2.2) = ordIdx n ws G := by
          rw [hzi, List.length_map, hlen, List.take_length]; rfl
        have eb := eA.trans (e2.trans e)
        refine ⟨_, rfl, d', _, rfl, sl_of hd', fun x hx => ?_, fun ys q5 hperm hq5 => ⟨q5, rfl, ⟨_, sl_of upd_same⟩, ?_⟩⟩
        · obtain ⟨z, hz, rfl⟩ := List.mem_map.mp hx
          exact ⟨z.1, _, _, rfl, hZ z hz⟩
        · obtain ⟨zo, hzo, rfl⟩ := perm_map_ex hperm _ rfl
          have hO : (zo.map fun z => z.2.2).Perm (ordIdx n ws G) := by rw [← hzi']; exact hzo.map _
          have e5 : Ex H' (upd H' q5 (.lst (zo.map rf))) := Ex.new hq5
          have ho5 := (e2.trans (e.trans e5)).lst hoA
          have hZ5 : ZZ (upd H' q5 (.lst (zo.map rf))) zo := fun z hz => (hZ.ex e5) z (hzo.mem_iff.mp hz)
          have hq55 : upd H' q5 (.lst (zo.map rf)) q5 = some (.lst (zo.map rf)) := upd_same
          have noq : o ≠ q5 := fun z => by
            have := (e2.trans e).lst hoA
            rw [z, hq5] at this
            cases this
          have eb5 := eb.trans e5
          generalize upd H' q5 (.lst (zo.map rf)) = H5 at ho5 hZ5 hq55 eb5
          have hOlt : ∀ z ∈ zo, z.2.2 < ws.length := fun z hz => by
            have h1 : z.2.2 ∈ ordIdx n ws G := hO.mem_iff.mp (List.mem_map.mpr ⟨z, hz, rfl⟩)
            unfold ordIdx at h1
            obtain ⟨b, _, h2⟩ := List.mem_flatMap.mp h1
            exact idxs_lt h2
          have hzol : zo.length ≤ 100 := by
            rw [hzo.length_eq]
            have : zs.length ≤ 9 * 9 := Nat.le_trans hzl (Nat.mul_le_mul (by rw [List.length_map]; omega) (by omega))
            omega
          refine for_it (walk_list (K := K) (a := q5) (xs := zo.map rf)) (fun i σ' H' => (∃ y r z, σ' = [some (nI n), some (.ref a), some (.ref g), some (.ref o), some (.ref d'), y, r, z]) ∧ Ex H H' ∧ H' q5 = some (.lst (zo.map rf)) ∧ ZZ H' zo ∧
              H' o = some (.lst ((greedy (keptB n ws G) ((zo.take i).map fun z => z.2.2)).map nI)))
            ⟨⟨_, _, _, rfl⟩, eb5, hq55, hZ5, ho5⟩ (fun i σ' H' _ p' => sl_of p'.2.2.1) (fun i x σ' H0 H1 hi p' y => ?_) (fun σ' H' p' => ?_)
          · obtain ⟨⟨y1, r1, z1, rfl⟩, eh, hq6, hZ6, ho6⟩ := p'
            obtain ⟨rfl, yv⟩ := y
            have hi' : i < zo.length := by rw [List.length_map] at hi; exact hi
            have hz1 : zo[i]? = some zo[i] := List.getElem?_eq_getElem hi'
            have ex : x = .ref zo[i].1 := by
              have e := yv
              rw [List.getElem?_map, hz1] at e
              exact (Option.some.inj e).symm
            subst ex
            have hzm : zo[i] ∈ zo := List.getElem_mem hi'
            have htk : (zo.take (i + 1)).map (fun z => z.2.2) = (zo.take i).map (fun z => z.2.2) ++ [zo[i].2.2] := by
              rw [List.take_add_one, hz1, List.map_append]; rfl
            have hlt := hOlt _ hzm
            generalize zo[i] = z at hzm htk hlt
            have hgl : (greedy (keptB n ws G) ((zo.take i).map fun z => z.2.2)).length ≤ 100 := by
              have := greedy_len (keptB n ws G) ((zo.take i).map fun z => z.2.2) []
              simp only [List.length_map, List.length_take, List.length_nil] at this
              unfold greedy
              omega
            have hgs : ∀ k ∈ greedy (keptB n ws G) ((zo.take i).map fun z => z.2.2), k < ws.length := fun k hk => by
              rcases greedy_sub (keptB n ws G) _ [] k hk with h | h
              · simp at h
              · obtain ⟨z', hz', rfl⟩ := List.mem_map.mp h
                exact hOlt z' (List.mem_of_mem_take hz')
            refine ⟨z.1, _, rfl, st_of (hZ6 z hzm), rfl, nI z.2.1, _, rfl, nI z.2.2, _, rfl, rfl, ?_⟩
            refine ⟨_, rfl, _, rfl, _, rfl, _, rfl, o, _, rfl, .inr (sl_of ho6), _, rfl, by simp only [List.length_append, List.length_map]; exact sz_ok (by simp only [List.length_cons, List.length_nil]; omega), fun t ht => ?_⟩
            have e7 : Ex H1 (upd H1 t (.lst ((greedy (keptB n ws G) ((zo.take i).map fun z => z.2.2)).map nI ++ [nI z.2.2]))) := Ex.new ht
            refine ⟨n, a, g, t, ws, G, greedy (keptB n ws G) ((zo.take i).map fun z => z.2.2) ++ [z.2.2], rfl, (eh.trans e7).st ha, (eh.trans e7).st hg, sl_of (by rw [upd_same, List.map_append]; rfl), (eh.trans e7).tab _ hP, hrise, h9, h0, hw, ?_, ?_, fun H8 e8 => ?_⟩
            · intro k hk
              rcases List.mem_append.mp hk with hk | hk
              · exact hgs k hk
              · rw [List.mem_singleton] at hk; rw [hk]; exact hlt
            · rw [List.length_append, List.length_singleton]; omega
            · have e18 := e7.trans e8
              refine ⟨_, rfl, ?_⟩
              refine ite2 (fun hk => ?_) (fun hk => ?_)
              · refine ⟨.ref o, rfl, .inl ⟨rfl, _, .inl (.inl (e18.lst ho6))⟩, _, rfl, o, _, _, rfl, rfl, e18.lst ho6, sz_lt (by rw [List.length_map]; omega), ?_⟩
                refine ⟨⟨_, _, _, rfl⟩, (eh.trans e18).mut no, by rw [upd_ne noq.symm]; exact e18.lst hq6, (hZ6.ex e18).wr (e18.lst ho6), ?_⟩
                rw [upd_same, htk, greedy_snoc, if_pos hk, List.map_append]
                rfl
              · refine ⟨⟨_, _, _, rfl⟩, eh.trans e18, e18.lst hq6, hZ6.ex e18, ?_⟩
                rw [e18.lst ho6, htk, greedy_snoc, if_neg hk]
          · obtain ⟨⟨y1, r1, z1, rfl⟩, eh, hq6, hZ6, ho6⟩ := p'
            refine ⟨_, rfl, ?_⟩
            rw [List.length_map, List.take_length] at ho6
            exact q _ ⟨fun z => absurd z hGn, fun _ => ⟨_, hO, rfl⟩⟩ o H' no eh ho6
end
end Px
namespace Px
open PySem L2 PyProof.Rows Kx Tx Ma
/-- a row filled: places that are free, one after another -/
def fillS (ks : List Nat) (st : List Nat × List Nat) (i : Nat) : List Nat × List Nat := if i ∈ ks then st else (st.1.set i (st.2.headD 0), st.2.tail)
def fillN (ks ws fr : List Nat) (i : Nat) : List Nat × List Nat := (List.range i).foldl (fillS ks) (ws, fr)
theorem fillN_succ (ks ws fr : List Nat) (i : Nat) : fillN ks ws fr (i + 1) = fillS ks (fillN ks ws fr i) i := by
  unfold fillN
  rw [List.range_succ, List.foldl_append]
  rfl
theorem fillN_len (ks ws fr : List Nat) : ∀ i, (fillN ks ws fr i).1.length = ws.length
  | 0 => rfl
  | i + 1 => by
    rw [fillN_succ]
    unfold fillS
    split
    · exact fillN_len ks ws fr i
    · rw [List.length_set]; exact fillN_len ks ws fr i
def cnt (ks : List Nat) (i : Nat) : Nat := ((List.range i).filter fun j => decide (j ∉ ks)).length
theorem cnt_succ (ks : List Nat) (i : Nat) : cnt ks (i + 1) = if i ∈ ks then cnt ks i else cnt ks i + 1 := by
  unfold cnt
  rw [List.range_succ, List.filter_append, List.length_append]
  by_cases h : i ∈ ks
  · rw [if_pos h, List.filter_cons, if_neg (show ¬ decide (i ∉ ks) = true from fun z => (of_decide_eq_true z) h)]; rfl
  · rw [if_neg h, List.filter_cons, if_pos (decide_eq_true h)]; rfl
theorem cnt_mono (ks : List Nat) {i j : Nat} (h : i ≤ j) : cnt ks i ≤ cnt ks j := by
  induction h with
  | refl => exact Nat.le_refl _
  | step _ ih => rw [cnt_succ]; split <;> omega
theorem fillN_fr (ks ws fr : List Nat) : ∀ i, (fillN ks ws fr i).2.length = fr.length - cnt ks i
  | 0 => by show fr.length = fr.length - 0; omega
  | i + 1 => by
    rw [fillN_succ, cnt_succ]
    unfold fillS
    have ih := fillN_fr ks ws fr i
    split
    · exact ih
    · rw [List.length_tail, ih]; omega
theorem len_split {α : Type} (p : α → Bool) : ∀ l : List α, l.length = (l.filter p).length + (l.filter fun x => !p x).length
  | [] => rfl
  | x :: l => by
    have ih := len_split p l
    rw [List.filter_cons, List.filter_cons]
    cases h : p x
    · simp only [Bool.false_eq_true, if_false, Bool.not_false, if_true, List.length_cons]; omega
    · simp only [if_true, Bool.not_true, Bool.false_eq_true, if_false, List.length_cons]; omega
theorem cnt_all {m : Nat} {ks : List Nat} (hn : ks.Nodup) (hs : ∀ i ∈ ks, i < m) : cnt ks m + ks.length = m := by
  have h1 := len_split (fun j => decide (j ∈ ks)) (List.range m)
  rw [List.length_range] at h1
  have h2 : ((List.range m).filter fun j => decide (j ∈ ks)).length = ks.length := by
    apply Nat.le_antisymm
    · exact len_le_of_sub (List.nodup_range.filter _) (fun x hx => of_decide_eq_true (List.mem_filter.mp hx).2)
    · exact len_le_of_sub hn (fun x hx => List.mem_filter.mpr ⟨List.mem_range.mpr (hs x hx), decide_eq_true hx⟩)
  have h3 : ((List.range m).filter fun j => !decide (j ∈ ks)).length = cnt ks m := by
    unfold cnt
    congr 1
    apply List.filter_congr
    intro x _
    by_cases h : x ∈ ks <;> simp [h]
  omega
def takenOf (n : Nat) (ws ks : List Nat) : List Nat := spots n (at_ ws ks)
def freeOf (n : Nat) (ws G ks : List Nat) : List Nat := G.filter fun p => decide (p ∉ takenOf n ws ks)
def chg (n : Nat) (ws G ks : List Nat) : List Nat := (fillN ks ws (freeOf n ws G ks) ws.length).1
theorem at_len (ws ks : List Nat) : (at_ ws ks).length = ks.length := by unfold at_; rw [List.length_map]
theorem free_len {n : Nat} {ws G ks : List Nat} (hG : G.Nodup) : G.length ≤ (freeOf n ws G ks).length + ks.length := by
  have h1 := len_split (fun p => decide (p ∈ takenOf n ws ks)) G
  have h2 : (G.filter fun p => decide (p ∈ takenOf n ws ks)).length ≤ ks.length := by
    have := len_le_of_sub (l := G.filter fun p => decide (p ∈ takenOf n ws ks)) (m := takenOf n ws ks) (hG.filter _) (fun x hx => of_decide_eq_true (List.mem_filter.mp hx).2)
    unfold takenOf at this
    rw [spots_len, at_len] at this
    exact this
  have h3 : (G.filter fun p => !decide (p ∈ takenOf n ws ks)).length = (freeOf n ws G ks).length := by
    unfold freeOf
    congr 1
    apply List.filter_congr
    intro x _
    by_cases h : x ∈ takenOf n ws ks <;> simp [h]
  omega
/-- what is known of the kept ones: d wishes are not kept -/
def KeptBy (n : Nat) (ws G : List Nat) (d : Nat) : Prop := ∀ ks, KeptOf n ws G ks → ks.Nodup ∧ (∀ i ∈ ks, i < ws.length) ∧ ws.length - ks.length = d
theorem ixN_nat {l i : Nat} (h : i < l) : ixN l (i : Int) = some i := by
  unfold ixN
  rw [if_pos (by omega), if_pos (by omega), Int.toNat_natCast]
section
variable {P : Program} {w : World} {K : PySem.W.Frag} {mg : Str → Option Value} {base : Heap}
def sp_changed (K : PySem.W.Frag) (Pt : Addr) : Sp := fun vs H Q _ => ∃ (n d : Nat) (a g : Addr) (ws G : List Nat), vs = [nI n, .ref a, .ref g] ∧ SqT K H a (ws.map nI) ∧ SqT K H g (G.map nI) ∧ GxR.TabG H Pt ∧
  Rise G ∧ n ≤ 9 ∧ 0 < n ∧ (∀ x ∈ G, x < n) ∧ ws.length ≤ n ∧ (∀ x ∈ ws, x < n) ∧ G.length = ws.length ∧ KeptBy n ws G d ∧
  ∀ ks, KeptOf n ws G ks → ∀ p r H2, H p = none → H r = none → Ex H H2 → H2 r = some (.tup ((chg n ws G ks).map nI)) → H2 p = some (.tup [nI d, .ref r]) → Q (.ref p) H2
theorem c_changed {Pt : Addr} (D : D0 K mg "changed" s_changed ["size", "wishes", "goal"]) (T : Blt mg) (C_kept_of : Ca P w K mg base 7 "kept_of" (sp_kept_of K Pt)) (C_spots_of : Ca P w K mg base 1 "spots_of" (sp_spots_of K)) :
    Ca P w K mg base 8 "changed" (sp_changed K Pt) := by
  refine D.cal sc_changed (fun vs H Q E h => ?_) (fun f cdv A outer s H vs Q E hr h => ?_)
  · obtain ⟨n, d, a, g, ws, G, rfl, _⟩ := h
    rfl
  · obtain ⟨n, d, a, g, ws, G, rfl, ha, hg, hP, hrise, h9, h0, hw, hl, hww, hGl, hkb, q⟩ := h
    have hGn : G.Nodup := SetLt (n := n) hrise
    refine ⟨_, (pss_cons (ps_set (i := 3) sc_changed.nd rfl (by first | exact Or.inl rfl | exact Or.inr rfl) (pe_ca C_kept_of hr (by decide) (by rfl) (pa_cons (pv 0) (pa_cons (pv 1) (pa_cons (pv 2) pa_nil)))))
      (pss_cons (ps_set (i := 4) sc_changed.nd rfl (by first | exact Or.inl rfl | exact Or.inr rfl) (pe_ca C_spots_of hr (by decide) (by rfl) (pa_cons (pv 0) (pa_cons (pe_lc (own := [("index", 7)]) (by rfl) sc_changed.nd (Rx.piL K (pv 3)) (blkOk_by (own := [("index", 7)]) (by rfl)) (fun _ _ _ _ _ => (pg_name (i := 7) sc_changed.nd rfl (by first | exact Or.inl rfl | exact Or.inr rfl))) (fun _ _ _ _ _ => pts_nil) (fun _ _ _ _ _ => (pe_ix (Rx.ixT K) (pv 1) (pv 7) (fun _ _ => rfl)))) pa_nil))))
      (pss_cons (ps_setLc (i := 5) (own := [("place", 8)]) (by rfl) sc_changed.nd rfl rfl (sw_true rfl rfl rfl (by decide +kernel)) (Rx.piT K (pv 2)) (blkOk_by (own := [("place", 8)]) (by rfl)) (fun _ _ _ _ _ => (pg_name (i := 8) sc_changed.nd rfl (by first | exact Or.inl rfl | exact Or.inr rfl))) (fun _ _ _ _ _ => pts_one (pt_cmpR (Rx.niS K) (pv 8) (pv 4) (by rfl))) (fun _ _ _ _ _ => (pv 8)))
      (pss_cons (ps_set (i := 6) sc_changed.nd rfl (by first | exact Or.inl rfl | exact Or.inr rfl) (pe_callTy (Rx.lstK K) (by rfl) T.list_ (by decide +kernel) (pa_cons (pv 1) pa_nil)))
      (pss_cons (ps_for PassesOwn.never rfl (pi_range1 (by rfl) T.range_ (pa_cons (pe_callB (Rx.lenK K) (by rfl) T.len_ (by decide +kernel) (pa_cons (pv 1) pa_nil)) pa_nil)) (pg_name (i := 7) sc_changed.nd rfl (by first | exact Or.inl rfl | exact Or.inr rfl))
        (pss_one (ps_if (pt_cmpR (Rx.niS K) (pv 7) (pv 3) (by rfl))
          (pss_one (ps_asg (Rx.bm K PySem.F.plainAttrs_list PySem.F.slot_list_pop PySem.F.type_list_pop mt_popAt (pv 5) (pa_cons pe_int pa_nil)) (pg_sub (pv 6) (pv 7) set_list))) pss_nil)))
      (pss_one (ps_ret (pe_tup (pa_cons (pe_op op_sub (pe_callB (Rx.lenK K) (by rfl) T.len_ (by decide +kernel) (pa_cons (pv 1) pa_nil)) (pe_callB (Rx.lenK K) (by rfl) T.len_ (by decide +kernel) (pa_cons (pv 3) pa_nil))) (pa_cons (pe_callTy (Rx.tupK K) (by rfl) T.tuple_ (by decide +kernel) (pa_cons (pv 6) pa_nil)) pa_nil)))))))))), ?_⟩
    refine ⟨_, rfl, _, rfl, _, rfl, n, a, g, ws, G, rfl, ha, hg, hP, hrise, h9, h0, hw, hl, fun ks hks k H1 hk e1 hk1 => ?_⟩
    obtain ⟨hnd, hlt, hd⟩ := hkb ks hks
    have hkl : ks.length ≤ ws.length := by have := cnt_all hnd hlt; omega
    refine go_name ?_
    dsimp only
    refine ⟨_, rfl, ?_⟩
    refine gL fun Q1 hQ1 => ?_
    refine ⟨.ref k, rfl, k, rfl, ⟨_, sl_of hk1⟩, ?_⟩
    refine lc_vals (fun _ => true) (fun i => nI (ws.getD (ks.getD i 0) 0)) (walk_list (K := K) (a := k) (xs := ks.map nI)) (fun H' e' => e'.sl (sl_of hk1)) (by rw [List.length_map]; omega) (fun j x H3 H4 hj e3 y Ry Rn q1 _ => ?_) (fun D3 H3 nD e3 hD => ?_)
    · obtain ⟨rfl, yv⟩ := y
      obtain ⟨v, hv, rfl⟩ := nI_get yv
      rw [getD_of hv] at q1
      have hvl := hlt v (List.mem_of_getElem? hv)
      have hwv : (ws.map nI)[v]? = some (nI (ws.getD v 0)) := get_nI (get_getD hvl)
      exact ⟨rfl, goYes ⟨_, rfl, _, rfl, a, _, v, nI (ws.getD v 0), rfl, rfl, (e1.trans e3).st ha, atI_nat hwv, q1 rfl _ (Ex.refl _)⟩⟩
    refine hQ1 _ _ ?_
    have eD : giv (ks.map nI).length (fun _ => true) (fun i => nI (ws.getD (ks.getD i 0) 0)) = (at_ ws ks).map nI := by
      rw [List.length_map, giv_list ks (fun _ => true) (fun i => nI (ws.getD i 0)), List.filter_eq_self.mpr (fun _ _ => rfl)]
      unfold at_
      rw [List.map_map]
      rfl
    rw [eD] at hD
    have hatl : ∀ x ∈ at_ ws ks, x < n := fun x hx => by
      unfold at_ at hx
      obtain ⟨i, hi, rfl⟩ := List.mem_map.mp hx
      exact hww _ (List.mem_of_getElem? (get_getD (hlt i hi)))
    refine ⟨n, D3, at_ ws ks, rfl, .inr (sl_of hD), by rw [at_len]; omega, h9, hatl, fun o H4 ho e4 ho4 => ?_⟩
    have e14 := e1.trans (e3.trans e4)
    refine go_name ?_
    dsimp only
    refine go_seq (go_asg (gL fun Q2 hQ2 => ?_))
    refine ⟨.ref g, rfl, g, rfl, ⟨_, e14.st hg⟩, ?_⟩
    refine lc_vals (fun i => decide (G.getD i 0 ∉ takenOf n ws ks)) (fun i => nI (G.getD i 0)) (walk_tup (K := K) (a := g) (xs := G.map nI)) (fun H' e' => (e14.trans e').st hg) (by rw [List.length_map]; omega) (fun j x H5 H6 hj e5 y Ry Rn q1 q2 => ?_) (fun D5 H5 nD5 e5 hD5 => ?_)
    · obtain ⟨rfl, yv⟩ := y
      obtain ⟨v, hv, rfl⟩ := nI_get yv
      rw [getD_of hv] at q1 q2
      have ho5 := e5.lst ho4
      refine ⟨rfl, ?_⟩
      refine ⟨_, rfl, _, rfl, o, _, rfl, .inl (sl_of ho5), rfl, flat_nI _, _, rfl, ?_⟩
      show if (!inV (nI v) ((spots n (at_ ws ks)).map nI)) = true then _ else _
      rw [inV_nI]
      by_cases hin : v ∈ takenOf n ws ks
      · rw [decide_eq_false (not_not_intro hin)] at q2
        rw [decide_eq_true (show v ∈ spots n (at_ ws ks) from hin)]
        exact iteF (q2 rfl _ (Ex.refl _))
      · rw [decide_eq_true hin] at q1
        rw [decide_eq_false (show v ∉ spots n (at_ ws ks) from hin)]
        exact iteT ⟨_, rfl, q1 rfl _ (Ex.refl _)⟩
    refine hQ2 _ _ ?_
    have eF : giv (G.map nI).length (fun i => decide (G.getD i 0 ∉ takenOf n ws ks)) (fun i => nI (G.getD i 0)) = (freeOf n ws G ks).map nI := by
      rw [List.length_map, giv_list G (fun p => decide (p ∉ takenOf n ws ks)) nI]
      rfl
    rw [eF] at hD5
    have e15 := e14.trans e5
    have nD50 : H D5 = none := e14.free D5 nD5
    refine go_name ?_
    dsimp only
    refine ⟨_, rfl, a, _, rfl, .inr (e15.st ha), fun l hl' => ?_⟩
    have nl0 : H l = none := e15.free l hl'
    have nlD : D5 ≠ l := ne_of_none hD5 hl'
    have e6 : Ex H5 (upd H5 l (.lst (ws.map nI))) := Ex.new hl'
    have hDD := e6.lst hD5
    have hll : upd H5 l (.lst (ws.map nI)) l = some (.lst (ws.map nI)) := upd_same
    have hkk := (e3.trans (e4.trans (e5.trans e6))).lst hk1
    have e16 := e15.trans e6
    have nkD : k ≠ D5 := fun z => by
      have := (e3.trans e4).lst hk1
      rw [z, nD5] at this
      cases this
    have nkl : k ≠ l := fun z => by
      have := (e3.trans (e4.trans e5)).lst hk1
      rw [z, hl'] at this
      cases this
    generalize upd H5 l (.lst (ws.map nI)) = H6 at e6 hDD hll hkk e16
    refine go_name ?_
    dsimp only
    have hfl := free_len (n := n) (ws := ws) (ks := ks) hGn
    have hca := cnt_all hnd hlt
    refine ⟨_, rfl, a, _, rfl, .inr (e16.st ha), _, rfl, by simp only [List.length_map]; omega, by simp only [List.length_map]; omega, ?_⟩
    have eN : (((ws.map nI).length : Nat) : Int).toNat = ws.length := by rw [List.length_map]; omega
    rw [eN]
    refine for_it (walk_range (lo := 0) (n := ws.length)) (fun i σ' H' => (∃ y, σ' = [some (nI n), some (.ref a), some (.ref g), some (.ref k), some (.ref o), some (.ref D5), some (.ref l), y, none]) ∧ Ex H H' ∧ H' k = some (.lst (ks.map nI)) ∧
        H' D5 = some (.lst ((fillN ks ws (freeOf n ws G ks) i).2.map nI)) ∧ H' l = some (.lst ((fillN ks ws (freeOf n ws G ks) i).1.map nI)))
      ⟨⟨none, rfl⟩, e16, hkk, hDD, hll⟩ (fun _ _ _ _ _ => True.intro) (fun i x σ' H0 H1 hi p y => ?_) (fun σ' H' p => ?_)
    · obtain ⟨⟨y1, rfl⟩, eh, hk7, hD7, hl7⟩ := p
      obtain ⟨rfl, rfl⟩ := y
      have ex : (fun i : Nat => V.int (0 + (i : Int))) i = nI i := by show V.int _ = V.int _; rw [Int.zero_add]
      rw [ex]
      refine go_name ?_
      refine ⟨_, rfl, _, rfl, k, _, rfl, .inl (sl_of hk7), rfl, flat_nI _, _, rfl, ?_⟩
      show if (!inV (nI i) (ks.map nI)) = true then _ else _
      rw [inV_nI]
      by_cases hin : i ∈ ks
      · rw [decide_eq_true hin]
        refine iteF ⟨⟨_, rfl⟩, eh, hk7, ?_, ?_⟩
        · rw [fillN_succ]; unfold fillS; rw [if_pos hin]; exact hD7
        · rw [fillN_succ]; unfold fillS; rw [if_pos hin]; exact hl7
      · rw [decide_eq_false hin]
        refine iteT ?_
        have hfr := fillN_fr ks ws (freeOf n ws G ks) i
        have hcs := cnt_succ ks i
        rw [if_neg hin] at hcs
        have hcm := cnt_mono ks (show i + 1 ≤ ws.length from hi)
        have hfl1 := fillN_len ks ws (freeOf n ws G ks) i
        obtain ⟨c, fr', hfe⟩ : ∃ c fr', (fillN ks ws (freeOf n ws G ks) i).2 = c :: fr' := by
          cases hz : (fillN ks ws (freeOf n ws G ks) i).2 with
          | nil => rw [hz] at hfr; simp at hfr; omega
          | cons c fr' => exact ⟨c, fr', rfl⟩
        have hDm := hD7
        rw [hfe] at hDm
        refine ⟨.ref D5, rfl, .inl ⟨rfl, _, .inl (.inl hDm)⟩, D5, _, 0, 0, nI c, rfl, rfl, hDm, by decide, by decide, (by unfold seqIndex?; simp), rfl, ?_⟩
        have hlm : upd H1 D5 (.lst (((c :: fr').map nI).eraseIdx 0)) l = some (.lst ((fillN ks ws (freeOf n ws G ks) i).1.map nI)) := by
          rw [upd_ne nlD.symm]; exact hl7
        refine ⟨_, rfl, _, rfl, l, _, _, i, rfl, rfl, hlm, ixN_nat (by rw [List.length_map]; omega), ?_⟩
        refine ⟨⟨_, rfl⟩, (eh.mut nD50).mut nl0, by rw [upd_ne nkl, upd_ne nkD]; exact hk7, ?_, ?_⟩
        · rw [upd_ne nlD, upd_same, fillN_succ]
          unfold fillS
          rw [if_neg hin, hfe]
          rfl
        · rw [upd_same, fillN_succ]
          unfold fillS
          rw [if_neg hin, hfe, List.map_set]
          rfl
    · obtain ⟨⟨y1, rfl⟩, eh, hk7, hD7, hl7⟩ := p
      refine ⟨_, rfl, a, _, rfl, .inr (eh.st ha), _, rfl, k, _, rfl, .inl (sl_of hk7), _, _, rfl, rfl, ?_⟩
      refine ⟨_, rfl, l, _, rfl, .inl ⟨sl_of hl7, fun r hr' => ?_⟩⟩
      refine ⟨by show 2 ≤ sizeLine; decide, fun p hp => ?_⟩
      have er := Ex.new (o := .tup ((fillN ks ws (freeOf n ws G ks) ws.length).1.map nI)) hr'
      have ep := Ex.new (o := .tup [V.int (((ws.map nI).length : Int) - ((ks.map nI).length : Int)), .ref r]) hp
      refine q ks hks p r _ ((eh.trans er).free p hp) (eh.free r hr') (eh.trans (er.trans ep)) (ep.tup upd_same) ?_
      have e8 : V.int (((ws.map nI).length : Int) - ((ks.map nI).length : Int)) = nI d := by
        rw [List.length_map, List.length_map]
        show V.int _ = V.int _
        congr 1
        omega
      rw [← e8]
      exact upd_same
end
end Px
/-! places compared as data; sorted places -/
namespace Px
open PySem L2 PyProof.Rows Kx Tx Ma
def dI (k : Nat) : PyData := .int (k : Int)
def dT (xs : List Nat) : PyData := .tuple (xs.map dI)
theorem dp_nI (K : PySem.W.Frag) (H : Hp) : ∀ xs : List Nat, DpAll K H (xs.map nI) (xs.map dI)
  | [] => .nil
  | x :: xs => .cons (.int _) (dp_nI K H xs)
theorem dp_T {K : PySem.W.Frag} {H : Hp} {a : Addr} {xs : List Nat} (h : SqT K H a (xs.map nI)) : Dp K H (.ref a) (dT xs) := .tup h (dp_nI K H xs)
theorem lay_all : ∀ xs : List Nat, PyData.canLayAll0 (xs.map dI) = true
  | [] => by simp [PyData.canLayAll0]
  | x :: xs => by rw [List.map_cons, PyData.canLayAll0, lay_all xs]; simp [dI, PyData.canLay0]
theorem dep_all : ∀ xs : List Nat, PyData.depthAll (xs.map dI) = 0
  | [] => by simp [PyData.depthAll]
  | x :: xs => by rw [List.map_cons, PyData.depthAll, dep_all xs]; simp [dI, PyData.depth]
theorem lay_T (xs : List Nat) : (dT xs).canLay0 = true := by unfold dT; rw [PyData.canLay0]; exact lay_all xs
theorem dep_T (xs : List Nat) : (dT xs).depth = 1 := by unfold dT; rw [PyData.depth, dep_all]
theorem shaped_T (xs : List Nat) : SeqAt.shaped (dT xs) = true := by
  unfold SeqAt.shaped
  rw [lay_T, dep_T]
  rfl
theorem eqv_all_nI : ∀ xs ys : List Nat, PyData.eqvAll (xs.map dI) (ys.map dI) = decide (xs = ys)
  | [], [] => by simp [PyData.eqvAll]
  | [], y :: ys => by simp [PyData.eqvAll]
  | x :: xs, [] => by simp [PyData.eqvAll]
  | x :: xs, y :: ys => by
    rw [List.map_cons, List.map_cons, PyData.eqvAll, eqv_all_nI xs ys]
    have : PyData.eqv (dI x) (dI y) = decide (x = y) := by
      unfold dI
      rw [PyData.eqv, Bool.eq_iff_iff, beq_iff_eq, decide_eq_true_iff]
      omega
    rw [this, Bool.eq_iff_iff]
    simp
theorem eqv_T (xs ys : List Nat) : PyData.eqv (dT xs) (dT ys) = decide (xs = ys) := by
  unfold dT
  rw [PyData.eqv]
  exact eqv_all_nI xs ys
/-! sorted places against a goal -/
def fitsB (n : Nat) (G R : List Nat) : Bool := (spots n R).all fun x => decide (x ∈ G)
def ham : List Nat → List Nat → Nat
  | x :: xs, y :: ys => ham xs ys + (if x = y then 0 else 1)
  | _, _ => 0
theorem rise_pair {n : Nat} {G : List Nat} (hr : Rise G) : G.Pairwise (· < ·) := by
  have key : ∀ (j i x y : Nat), G[i]? = some x → G[i + 1 + j]? = some y → x < y := by
    intro j
    induction j with
    | zero => intro i x y h1 h2; exact hr i x y h1 h2
    | succ j ih =>
      intro i x y h1 h2
      have hl := (List.getElem?_eq_some_iff.mp h2).1
      have e : G[i + 1 + j]? = some G[i + 1 + j] := List.getElem?_eq_getElem (by omega)
      exact Nat.lt_trans (ih i x _ h1 e) (hr (i + 1 + j) _ _ e h2)
  rw [List.pairwise_iff_getElem]
  intro i j hi hj hij
  exact key (j - i - 1) i G[i] G[j] (List.getElem?_eq_getElem hi) (by rw [show i + 1 + (j - i - 1) = j by omega]; exact List.getElem?_eq_getElem hj)
theorem pair_rise {G : List Nat} (h : G.Pairwise (· < ·)) : Rise G := by
  intro i x y h1 h2
  obtain ⟨l1, e1⟩ := List.getElem?_eq_some_iff.mp h1
  obtain ⟨l2, e2⟩ := List.getElem?_eq_some_iff.mp h2
  rw [← e1, ← e2]
  exact List.pairwise_iff_getElem.mp h i (i + 1) l1 l2 (by omega)
theorem lt_of_le_nd {l : List Nat} (h : l.Pairwise (· ≤ ·)) (hn : l.Nodup) : l.Pairwise (· < ·) := by
  rw [List.pairwise_iff_getElem] at h ⊢
  intro i j hi hj hij
  have h1 := h i j hi hj hij
  have h2 := (List.pairwise_iff_getElem.mp hn) i j hi hj hij
  omega
theorem perm_of_sub {l m : List Nat} (hl : l.Nodup) (hm : m.Nodup) (hs : ∀ x ∈ l, x ∈ m) (hlen : m.length ≤ l.length) : l.Perm m := by
  rw [List.perm_iff_count]
  intro a
  have hb : ∀ x ∈ m, x ∈ l := by
    intro x hx
    by_cases h : x ∈ l
    · exact h
    · have := len_le_of_sub (l := x :: l) (m := m) (List.nodup_cons.mpr ⟨h, hl⟩) (fun y hy => by
        rcases List.mem_cons.mp hy with rfl | hy
        · exact hx
        · exact hs y hy)
      rw [List.length_cons] at this
      omega
  by_cases h : a ∈ l
  · rw [List.Nodup.count hl, List.Nodup.count hm, if_pos h, if_pos (hs a h)]
  · rw [List.Nodup.count hl, List.Nodup.count hm, if_neg h, if_neg (fun z => h (hb a z))]
theorem sorted_eq {l m : List Nat} (hl : l.Pairwise (· < ·)) (hm : m.Pairwise (· < ·)) (hp : l.Perm m) : l = m :=
  hp.eq_of_pairwise (le := (· < ·)) (fun a b _ _ h1 h2 => by omega) hl hm
theorem fits_iff {n : Nat} {G R S : List Nat} (hG : Rise G) (hlen : G.length = R.length) (hl : R.length ≤ n) (hR : ∀ x ∈ R, x < n) (hS : S.Perm (spots n R)) (hs : S.Pairwise (· ≤ ·)) : decide (S = G) = fitsB n G R := by
  have hT := spots_tk hl hR
  have hSn : S.Nodup := hS.nodup_iff.mpr hT.nd
  have hGn : G.Nodup := SetLt (n := n) hG
  rw [Bool.eq_iff_iff, decide_eq_true_iff]
  unfold fitsB
  rw [List.all_eq_true]
  constructor
  · rintro rfl x hx
    exact decide_eq_true (hS.mem_iff.mpr hx)
  · intro h
    refine sorted_eq (lt_of_le_nd hs hSn) (rise_pair (n := n) hG) ?_
    refine perm_of_sub hSn hGn (fun x hx => of_decide_eq_true (h x (hS.mem_iff.mp hx))) ?_
    rw [hS.length_eq, spots_len]
    omega
end Px
namespace Px
open PySem L2 PyProof.Rows Kx Tx Ma
theorem ham_cons (x y : Nat) (xs ys : List Nat) : ham (x :: xs) (y :: ys) = ham xs ys + (if x = y then 0 else 1) := rfl
/-- differing places, counted by the index -/
theorem ham_idx : ∀ (xs ys : List Nat), xs.length = ys.length → ((List.range xs.length).filter fun i => decide (xs.getD i 0 ≠ ys.getD i 0)).length = ham xs ys
  | [], [], _ => rfl
  | x :: xs, y :: ys, h => by
    rw [List.length_cons, List.range_succ_eq_map, List.filter_cons, ham_cons, ← ham_idx xs ys (by simpa using h)]
    have e : ((List.map Nat.succ (List.range xs.length)).filter fun i => decide ((x :: xs).getD i 0 ≠ (y :: ys).getD i 0)).length = ((List.range xs.length).filter fun i => decide (xs.getD i 0 ≠ ys.getD i 0)).length := by
      rw [List.filter_map, List.length_map]
      rfl
    by_cases hxy : x = y
    · rw [if_neg (show ¬ decide ((x :: xs).getD 0 0 ≠ (y :: ys).getD 0 0) = true from fun z => (of_decide_eq_true z) hxy), if_pos hxy, e]
      rfl
    · rw [if_pos (show decide ((x :: xs).getD 0 0 ≠ (y :: ys).getD 0 0) = true from decide_eq_true hxy), if_neg hxy, List.length_cons, e]
theorem walk_zT {K : PySem.W.Frag} {a b : Addr} {xs ys : List V} (hl : xs.length = ys.length) : Walk (RZ.ItzT K a b) xs.length (fun H => SqT K H a xs ∧ SqT K H b ys) (YPair (fun i => xs[i]?) (fun i => ys[i]?)) := by
  refine ⟨fun i _ hi q => ⟨xs, ys, xs[i], ys[i]'(by omega), q.1, q.2, by simp [hi], by simp [show i < ys.length by omega]⟩, fun _ q => ⟨xs, ys, q.1, q.2, .inl (Nat.le_refl _)⟩, fun i H v H' _ q y => ?_⟩
  obtain ⟨T, x, z, h1, h2, h3, h4, h5⟩ := y
  exact ⟨T, x, z, h1, h2, h3, h4 xs q.1, h5 ys q.2⟩
section
variable {P : Program} {w : World} {K : PySem.W.Frag} {mg : Str → Option Value} {base : Heap}
/-- what the row and its goal must be -/
structure Fit (n d : Nat) (ws G : List Nat) : Prop where
  n2 : 2 ≤ n
  n9 : n ≤ 9
  rise : Rise G
  ltG : ∀ x ∈ G, x < n
  len : ws.length ≤ n
  ltW : ∀ x ∈ ws, x < n
  glen : G.length = ws.length
  kept : KeptBy n ws G d
def sp_fewest (K : PySem.W.Frag) (P1 P2 P3 : Addr) : Sp := fun vs H Q _ => ∃ (n d : Nat) (a g : Addr) (ws G : List Nat), vs = [nI n, .ref a, .ref g] ∧ Rd H a (.tup (ws.map nI)) ∧ Rd H g (.tup (G.map nI)) ∧ GxR.TabG H P1 ∧ GxR.TabG H P2 ∧ GxR.TabG H P3 ∧
  Fit n d ws G ∧ ∀ ks, KeptOf n ws G ks → ∀ p r H2, H p = none → H r = none → Ex H H2 → H2 r = some (.tup ((chg n ws G ks).map nI)) → H2 p = some (.tup [nI d, .ref r]) → Q (.ref p) H2
theorem c_fewest {P1 P2 P3 : Addr} (D : D0 K mg "fewest_changes" s_fewest_changes ["size", "wishes", "goal"]) (T : Blt mg) (C_need_goal : Ca P w K mg base 7 "need_goal" (sp_need_goal K P1 P2)) (C_changed : Ca P w K mg base 8 "changed" (sp_changed K P3)) :
    Ca P w K mg base 9 "fewest_changes" (sp_fewest K P1 P2 P3) := by
  refine D.cal sc_fewest_changes (fun vs H Q E h => ?_) (fun f cdv A outer s H vs Q E hr h => ?_)
  · obtain ⟨n, d, a, g, ws, G, rfl, _⟩ := h
    rfl
  · obtain ⟨n, d, a, g, ws, G, rfl, ha, hg, hP1, hP2, hP3, F, q⟩ := h
    refine ⟨_, (pss_cons (ps_expr (pe_ca C_need_goal hr (by decide) (by rfl) (pa_cons (pv 0) (pa_cons (pv 1) (pa_cons (pv 2) pa_nil)))))
      (pss_one (ps_ret (pe_ca C_changed hr (by decide) (by rfl) (pa_cons (pv 0) (pa_cons (pv 1) (pa_cons (pv 2) pa_nil))))))), ?_⟩
    refine ⟨_, rfl, _, rfl, _, rfl, n, a, g, ws, G, rfl, F.n2, F.n9, ha, hg, hP1, hP2, F.len, F.ltW, F.rise, F.ltG, F.glen, fun H2 e => ?_⟩
    refine ⟨_, rfl, _, rfl, _, rfl, n, d, a, g, ws, G, rfl, e.st (.inl ha), e.st (.inl hg), e.tab _ hP3, F.rise, F.n9, by have := F.n2; omega, F.ltG, F.len, F.ltW, F.glen, F.kept, fun ks hks p r H3 hp hr' e3 h1 h2 => ?_⟩
    exact q ks hks p r H3 (e.free p hp) (e.free r hr') (e.trans e3) h1 h2
def IntBl (x : V) : Prop := (∃ i, x = .int i) ∨ ∃ b, x = .bl b
/-- a value to be judged, and the verdict -/
def ShV (H : Hp) (n d : Nat) (ws G : List Nat) (v : V) (due : Bool) : Prop :=
  ((v = .non ∨ ∃ i, v = .int i) ∧ due = false) ∨ (∃ l xs, v = .ref l ∧ H l = some (.lst xs) ∧ due = false) ∨
  (∃ t x l xs, v = .ref t ∧ H t = some (.tup [x, .ref l]) ∧ IntBl x ∧ H l = some (.lst xs) ∧ due = false) ∨
  (∃ t x r R, v = .ref t ∧ H t = some (.tup [x, .ref r]) ∧ IntBl x ∧ H r = some (.tup (R.map nI)) ∧ R.length = ws.length ∧ (∀ y ∈ R, y < n) ∧ due = (decide (x = nI d) && (decide (ham ws R = d) && fitsB n G R)))
def sp_shows (K : PySem.W.Frag) (P1 P2 P3 P4 : Addr) : Sp := fun vs H Q _ => ∃ (n d : Nat) (a g : Addr) (ws G : List Nat) (v : V) (due : Bool), vs = [nI n, .ref a, .ref g, v] ∧ Rd H a (.tup (ws.map nI)) ∧ Rd H g (.tup (G.map nI)) ∧ GxR.TabG H P1 ∧ GxR.TabG H P2 ∧ GxR.TabG H P3 ∧ GxR.TabG H P4 ∧
  Fit n d ws G ∧ ShV H n d ws G v due ∧ RetV (.bl due) H Q
theorem ShV.ex {H H' : Hp} {n d : Nat} {ws G : List Nat} {v : V} {due : Bool} (h : ShV H n d ws G v due) (e : Ex H H') : ShV H' n d ws G v due := by
  rcases h with h | ⟨l, xs, h1, h2, h3⟩ | ⟨t, x, l, xs, h1, h2, h3, h4, h5⟩ | ⟨t, x, r, R, h1, h2, h3, h4, h5⟩
  · exact .inl h
  · exact .inr (.inl ⟨l, xs, h1, e.lst h2, h3⟩)
  · exact .inr (.inr (.inl ⟨t, x, l, xs, h1, e.tup h2, h3, e.lst h4, h5⟩))
  · exact .inr (.inr (.inr ⟨t, x, r, R, h1, e.tup h2, h3, e.tup h4, h5⟩))
theorem go_nxt {D : Ends} {σ : L2.St} {H : Hp} (h : D.nx σ H) : tNext D σ H := h
theorem isin_d {x : V} {d : Nat} {H : Hp} {Q : VK} (hx : IntBl x) (k : Q (.bl (decide (x = nI d))) H) :
    (∃ i, x = .int i ∧ Q (.bl (decide ((d : Int) ≤ i) && decide (i ≤ (d : Int)))) H) ∨ (∃ b, x = .bl b ∧ Q (.bl false) H) := by
  rcases hx with ⟨i, rfl⟩ | ⟨b, rfl⟩
  · refine .inl ⟨i, rfl, ?_⟩
    have : (decide ((d : Int) ≤ i) && decide (i ≤ (d : Int))) = decide (V.int i = nI d) := by
      rw [Bool.eq_iff_iff, Bool.and_eq_true, decide_eq_true_iff, decide_eq_true_iff, decide_eq_true_iff]
      unfold nI
      rw [V.int.injEq]
      omega
    rw [this]
    exact k
  · refine .inr ⟨b, rfl, ?_⟩
    rw [decide_eq_false (show ¬ V.bl b = nI d from fun z => by cases z)] at k
    exact k
theorem gC {sp : Sp} {dvs : List V} {E : XK} {t : TA} {σ : L2.St} {H : Hp} {Q : VK} (h : ∀ Q' : VK, (∀ v H, Q v H → Q' v H) → tCall sp dvs E t σ H Q') : tCall sp dvs E t σ H Q := h Q fun _ _ q => q
theorem c_shows {c P1 P2 P3 Pt : Addr} (D : D1 K mg "shows_changes" s_shows_changes ["size", "wishes", "goal", "value"] c) (TB : GxR.TabB base mg c Pt) (T : Blt mg) (C_is_in : Ca P w K mg base 1 "is_in" sp_is_in) (C_spots_of : Ca P w K mg base 1 "spots_of" (sp_spots_of K))
    (C_need_goal : Ca P w K mg base 7 "need_goal" (sp_need_goal K P1 P2)) (C_changed : Ca P w K mg base 8 "changed" (sp_changed K P3)) :
    Ca P w K mg base 9 "shows_changes" (sp_shows K P1 P2 P3 Pt) := by
  refine D.cal sc_shows_changes (fun vs H Q E h => ?_) (fun f A outer s H vs Q E hr h => ?_)
  · obtain ⟨n, d, a, g, ws, G, v, due, rfl, _⟩ := h
    rfl
  · obtain ⟨n, d, a, g, ws, G, v, due, rfl, ha, hg, hP1, hP2, hP3, hP4, F, hv, q⟩ := h
    refine ⟨_, (pss_cons (ps_expr (pe_ca C_need_goal hr (by decide) (by rfl) (pa_cons (pv 0) (pa_cons (pv 1) (pa_cons (pv 2) pa_nil)))))
      (pss_cons (ps_set (i := 4) sc_shows_changes.nd rfl (by first | exact Or.inl rfl | exact Or.inr rfl) (pe_ix (Rx.ixT K) (pe_ca C_changed hr (by decide) (by rfl) (pa_cons (pv 0) (pa_cons (pv 1) (pa_cons (pv 2) pa_nil)))) pe_int (fun _ _ => rfl)))
      (pss_cons (ps_if (PW.pt (pw_or (pt_not (pt_val (pe_callB (Rx.isiK K) (by rfl) T.isinstance_ (by decide +kernel) (pa_cons (pv 3) (pa_cons (pe_bltn (v := .ty "tuple") (by rfl) T.tuple_ (by decide +kernel) rfl) pa_nil))))) (pw_or (pt_cmpR op_ne (pe_callB (Rx.lenK K) (by rfl) T.len_ (by decide +kernel) (pa_cons (pv 3) pa_nil)) pe_int (nomark _)) (pw_or1 (pt_not (pt_val (pe_ca C_is_in hr (by decide) (by rfl) (pa_cons (pe_ix (Rx.ixT K) (pv 3) pe_int (fun _ _ => rfl)) (pa_cons (pv 4) (pa_cons (pv 4) pa_nil))))))))))
        (pss_one (ps_ret pe_bl)) pss_nil)
      (pss_cons (ps_if (PW.pt (pw_or (pt_not (pt_val (pe_callB (Rx.isiK K) (by rfl) T.isinstance_ (by decide +kernel) (pa_cons (pe_ix (Rx.ixT K) (pv 3) pe_int (fun _ _ => rfl)) (pa_cons (pe_bltn (v := .ty "tuple") (by rfl) T.tuple_ (by decide +kernel) rfl) pa_nil))))) (pw_or1 (pt_cmpR op_ne (pe_callB (Rx.lenK K) (by rfl) T.len_ (by decide +kernel) (pa_cons (pe_ix (Rx.ixT K) (pv 3) pe_int (fun _ _ => rfl)) pa_nil)) (pe_callB (Rx.lenK K) (by rfl) T.len_ (by decide +kernel) (pa_cons (pv 1) pa_nil)) (nomark _)))))
        (pss_one (ps_ret pe_bl)) pss_nil)
      (pss_cons (ps_if (pt_not (pt_val (Gx.pe_allG hr (by rfl) T.all_ TB rfl rfl sc_shows_changes.nd (Rx.piT K (pe_ix (Rx.ixT K) (pv 3) pe_int (fun _ _ => rfl))) (blkOk_by (own := [("wish", 5)]) (N := ["size", "wishes", "goal", "value", "least", "wish", "one", "other"]) (sc := defScope s_shows_changes) (by decide +kernel)) rfl (by first | exact Or.inl rfl | exact Or.inr rfl) (fun A' _ _ _ _ _ rm => (pe_ca C_is_in (rm _ hr) (by decide) (by rfl) (pa_cons (pv 5) (pa_cons pe_int (pa_cons (pe_op op_sub (pv 0) pe_int) pa_nil))))))))
        (pss_one (ps_ret pe_bl)) pss_nil)
      (pss_cons (ps_if (pt_cmpR op_ne (pe_callB (Rx.lenK K) (by rfl) T.len_ (by decide +kernel) (pa_cons (pe_lc (own := [("one", 6), ("other", 7)]) (by rfl) sc_shows_changes.nd (Rx.piZ K (by rfl) T.zip_ (pa_cons (pv 1) (pa_cons (pe_ix (Rx.ixT K) (pv 3) pe_int (fun _ _ => rfl)) pa_nil))) (blkOk_by (own := [("one", 6), ("other", 7)]) (by rfl)) (fun _ _ _ _ _ => (Rx.pgT (n := 2) K rfl (pgs_cons (pg_name (i := 6) sc_shows_changes.nd rfl (by first | exact Or.inl rfl | exact Or.inr rfl)) (pgs_cons (pg_name (i := 7) sc_shows_changes.nd rfl (by first | exact Or.inl rfl | exact Or.inr rfl)) pgs_nil)))) (fun _ _ _ _ _ => pts_one (pt_cmpR op_ne (pv 6) (pv 7) (nomark _))) (fun _ _ _ _ _ => pe_int)) pa_nil)) (pv 4) (nomark _))
        (pss_one (ps_ret pe_bl)) pss_nil)
      (pss_one (ps_ret (pe_cmpR (Rx.eqD K hr.units) (pe_callTy (Rx.tupK K) (by rfl) T.tuple_ (by decide +kernel) (pa_cons (pe_callB (Rx.srtI K) (by rfl) T.sorted_ (by decide +kernel) (pa_cons (pe_ca C_spots_of hr (by decide) (by rfl) (pa_cons (pv 0) (pa_cons (pe_ix (Rx.ixT K) (pv 3) pe_int (fun _ _ => rfl)) pa_nil))) pa_nil)) pa_nil)) (pv 2) (nomark _)))))))))), ?_⟩
    refine ⟨_, rfl, _, rfl, _, rfl, n, a, g, ws, G, rfl, F.n2, F.n9, ha, hg, hP1, hP2, F.len, F.ltW, F.rise, F.ltG, F.glen, fun H2 e => ?_⟩
    refine ⟨_, rfl, _, rfl, _, rfl, n, d, a, g, ws, G, rfl, e.st (.inl ha), e.st (.inl hg), e.tab _ hP3, F.rise, F.n9, by have := F.n2; omega, F.ltG, F.len, F.ltW, F.glen, F.kept, fun ks hks p r H3 hp hr' e3 h1 h2 => ?_⟩
    refine ⟨p, _, (0 : Nat), nI d, rfl, rfl, st_of h2, rfl, ?_⟩
    have e13 := e.trans e3
    have hv3 := hv.ex e13
    refine go_name ?_
    dsimp only
    rcases hv3 with ⟨hv3, rfl⟩ | ⟨l, xs, rfl, hl, rfl⟩ | ⟨t, x, l, xs, rfl, ht, hx, hl, rfl⟩ | ⟨t, x, r2, R, rfl, ht, hx, hr2, hRl, hRn, rfl⟩
    · rcases hv3 with rfl | ⟨i, rfl⟩
      · refine ⟨_, rfl, _, _, _, _, false, rfl, .ty "tuple", .base .non, kit_ty (by decide +kernel), false, rfl, iteT ?_⟩
        exact q _ e13
      · refine ⟨_, rfl, _, _, _, _, false, rfl, .ty "tuple", .base (.int i), kit_ty (by decide +kernel), false, rfl, iteT ?_⟩
        exact q _ e13
    · refine ⟨_, rfl, _, _, _, _, false, rfl, .ty "tuple", .base (.lst hl), kit_ty (by decide +kernel), false, rfl, iteT ?_⟩
      exact q _ e13
    · refine ⟨_, rfl, _, _, _, _, true, rfl, .ty "tuple", .base (.tup ht), kit_ty (by decide +kernel), true, rfl, iteF ?_⟩
      refine ⟨_, rfl, t, _, rfl, .inr (st_of ht), rfl, _, rfl, iteF ?_⟩
      refine go_not (go_B (gC fun Q3 hQ3 => ?_))
      refine ⟨_, rfl, t, _, (0 : Nat), x, rfl, rfl, st_of ht, rfl, _, rfl, _, rfl, x, d, d, rfl, isin_d hx (hQ3 _ _ ⟨_, rfl, ?_⟩)⟩
      by_cases hxd : x = nI d
      · rw [decide_eq_true hxd]
        refine iteF ?_
        refine ⟨_, rfl, t, _, (1 : Nat), .ref l, rfl, rfl, st_of ht, rfl, _, _, _, _, false, rfl, .ty "tuple", .base (.lst hl), kit_ty (by decide +kernel), false, rfl, iteT ?_⟩
        exact q _ e13
      · rw [decide_eq_false hxd]
        refine iteT ?_
        exact q _ e13
    · refine ⟨_, rfl, _, _, _, _, true, rfl, .ty "tuple", .base (.tup ht), kit_ty (by decide +kernel), true, rfl, iteF ?_⟩
      refine ⟨_, rfl, t, _, rfl, .inr (st_of ht), rfl, _, rfl, iteF ?_⟩
      refine go_not (go_B (gC fun Q3 hQ3 => ?_))
      refine ⟨_, rfl, t, _, (0 : Nat), x, rfl, rfl, st_of ht, rfl, _, rfl, _, rfl, x, d, d, rfl, isin_d hx (hQ3 _ _ ⟨_, rfl, ?_⟩)⟩
      have ixv : ∀ {H' : Hp}, Ex H3 H' → SqT K H' t [x, .ref r2] := fun e' => st_of (e'.tup ht)
      by_cases hxd : x = nI d
      · rw [decide_eq_true hxd]
        refine iteF ?_
        rw [decide_eq_true hxd, Bool.true_and] at q
        refine ⟨_, rfl, t, _, (1 : Nat), .ref r2, rfl, rfl, st_of ht, rfl, _, _, _, _, true, rfl, .ty "tuple", .base (.tup hr2), kit_ty (by decide +kernel), true, rfl, iteF ?_⟩
        refine ⟨_, rfl, t, _, (1 : Nat), .ref r2, rfl, rfl, st_of ht, rfl, r2, _, rfl, .inr (st_of hr2), _, rfl, a, _, rfl, .inr (e13.st (.inl ha)), rfl, _, rfl, ?_⟩
        rw [List.length_map, List.length_map, hRl]
        refine iteNS rfl ?_
        refine go_nxt ?_
        dsimp only
        refine go_seq (go_ifs (go_not (go_B (gG fun Q4 hQ4 => ?_))))
        refine ⟨_, rfl, t, _, (1 : Nat), .ref r2, rfl, rfl, st_of ht, rfl, r2, rfl, ⟨_, st_of hr2⟩, ?_⟩
        refine gen_walk (fun _ => true) (walk_tup (K := K) (a := r2) (xs := R.map nI)) (Yv := fun i x => (R.map nI)[i]? = some x) (fun i H x H' y => y) (fun H' e' => st_of (e'.tup hr2)) (e13.tab _ hP4) (fun j y H5 hj hy e5 R' kR => ?_) (fun _ H5 e5 => ?_) (fun i _ h => nomatch h)
        · obtain ⟨v, hv, rfl⟩ := nI_get hy
          have hlt : v < n := hRn v (List.mem_of_getElem? hv)
          refine ⟨_, rfl, _, rfl, _, _, rfl, rfl, nI v, 0, _, rfl, .inl ⟨v, rfl, ?_⟩⟩
          rw [decide_eq_true (show (0 : Int) ≤ v by omega), decide_eq_true (show (v : Int) ≤ n - 1 by omega)]
          exact kR H5 (Ex.refl H5)
        · refine hQ4 _ _ ⟨true, rfl, iteF ?_⟩
          have e15 := e13.trans e5
          refine go_nxt ?_
          dsimp only
          refine go_seq (go_ifs (go_test (go_op (go_cb (go_cons (gL fun Q5 hQ5 => ?_))))))
          have st5 : SqT K H5 t [x, .ref r2] := ixv e5
          have hr5 := e5.tup hr2
          refine ⟨_, rfl, _, rfl, t, _, (1 : Nat), .ref r2, rfl, rfl, st5, rfl, a, r2, _, _, rfl, .inr ⟨e15.st (.inl ha), st_of hr5, ?_⟩⟩
          refine lc_vals (fun i => decide (ws.getD i 0 ≠ R.getD i 0)) (fun _ => .int 1) (walk_zT (K := K) (a := a) (b := r2) (xs := ws.map nI) (ys := R.map nI) (by rw [List.length_map, List.length_map, hRl])) (fun H' e' => ⟨(e15.trans e').st (.inl ha), st_of (e'.tup hr5)⟩) (by rw [List.length_map]; have := F.len; have := F.n9; omega) (fun j y H6 H7 hj e6 hy Ry Rn q1 q2 => ?_) (fun D6 H6 nD6 e6 hD6 => ?_)
          · obtain ⟨T1, x1, x2, rfl, hT1, rfl, hx1, hx2⟩ := hy
            obtain ⟨v1, hv1, rfl⟩ := nI_get hx1
            obtain ⟨v2, hv2, rfl⟩ := nI_get hx2
            rw [getD_of hv1, getD_of hv2] at q1 q2
            refine ⟨T1, _, rfl, st_of upd_same, rfl, nI v1, _, rfl, nI v2, _, rfl, rfl, rfl, ?_⟩
            refine ⟨_, rfl, _, rfl, rfl, _, rfl, ?_⟩
            have e7 : Ex H6 (upd H6 T1 (.tup [nI v1, nI v2])) := Ex.new hT1
            by_cases hvv : v1 = v2
            · rw [decide_eq_false (show ¬ v1 ≠ v2 from fun z => z hvv)] at q2
              subst hvv
              exact iteNS rfl (q2 rfl _ e7)
            · rw [decide_eq_true (show v1 ≠ v2 from hvv)] at q1
              rw [decide_eq_false (show ¬ nI v1 = nI v2 from fun z => hvv (nI_inj z))]
              exact iteT (q1 rfl _ e7)
          · have eL : (giv (ws.map nI).length (fun i => decide (ws.getD i 0 ≠ R.getD i 0)) (fun _ => V.int 1)).length = ham ws R := by
              unfold giv
              rw [List.length_map, List.length_map]
              exact ham_idx ws R hRl.symm
            have e16 := e15.trans e6
            refine hQ5 _ _ ⟨D6, _, rfl, .inl (sl_of hD6), _, rfl, rfl, _, rfl, ?_⟩
            rw [eL]
            by_cases hh : ham ws R = d
            · rw [decide_eq_true hh, Bool.true_and] at q
              refine iteNS (congrArg nI hh) ?_
              refine go_nxt ?_
              dsimp only
              refine ⟨_, rfl, _, rfl, t, _, (1 : Nat), .ref r2, rfl, rfl, st_of ((e5.trans e6).tup ht), rfl, n, r2, R, rfl, .inl (st_of (e6.tup hr5)), by rw [hRl]; exact F.len, F.n9, hRn, fun o H8 ho e8 ho8 => ?_⟩
              refine ⟨o, (spots n R).map Int.ofNat, rfl, sl_of (by rw [ho8, List.map_map]; rfl), fun ns' q9 hperm hsort hq9 => ?_⟩
              obtain ⟨S, hS, rfl⟩ := perm_map_ex hperm _ rfl
              have e9 : Ex H8 (upd H8 q9 (.lst ((S.map Int.ofNat).map V.int))) := Ex.new hq9
              have hq99 : upd H8 q9 (.lst ((S.map Int.ofNat).map V.int)) q9 = some (.lst (S.map nI)) := by
                rw [upd_same, List.map_map]
                rfl
              generalize upd H8 q9 (.lst ((S.map Int.ofNat).map V.int)) = H9 at e9 hq99
              refine ⟨q9, _, rfl, .inl ⟨sl_of hq99, fun z hz => ?_⟩⟩
              have e10 : Ex H9 (upd H9 z (.tup (S.map nI))) := Ex.new hz
              have e90 := e16.trans (e8.trans (e9.trans e10))
              refine ⟨_, rfl, dT S, dT G, dp_T (st_of upd_same), dp_T (e90.st (.inl hg)), shaped_T _, shaped_T _, ?_⟩
              have hs2 : S.Pairwise (· ≤ ·) := by
                rw [List.pairwise_map] at hsort
                exact hsort.imp (fun h => Int.ofNat_le.mp h)
              rw [eqv_T, fits_iff F.rise (by rw [F.glen, hRl]) (by rw [hRl]; exact F.len) hRn hS hs2]
              exact q _ e90
            · rw [decide_eq_false hh, Bool.false_and] at q
              rw [decide_eq_false (show ¬ V.int ((ham ws R : Nat) : Int) = nI d from fun z => hh (nI_inj z))]
              refine iteT ?_
              exact q _ e16
      · rw [decide_eq_false hxd]
        refine iteT ?_
        rw [decide_eq_false hxd, Bool.false_and] at q
        exact q _ e13
end
end Px
namespace Px
open PySem L2 PyProof.Rows Kx Tx Ma
/-- the dict of those who may park before -/
def kI (B : List Nat) : List Key := B.map fun (i : Nat) => (Sum.inl (i : Int) : Key)
theorem kI_map (B : List Nat) : (kI B).map kV = B.map nI := by
  unfold kI
  rw [List.map_map]
  rfl
theorem kI_inj {A B : List Nat} (h : kI A = kI B) : A = B := by
  have h2 := congrArg (List.map kV) h
  rw [kI_map, kI_map] at h2
  exact List.map_inj_right (f := nI) (fun x y e => nI_inj e) |>.mp h2
def rowD (rows : List (List Nat)) : List (List Key × V) := rows.map fun B => (kI B, V.int 1)
theorem rowD_any (rows : List (List Nat)) (x : List Nat) : ((rowD rows).any fun kv => decide (kv.1 = kI x)) = decide (x ∈ rows) := by
  rw [Bool.eq_iff_iff, List.any_eq_true, decide_eq_true_iff]
  constructor
  · rintro ⟨kv, hk, e⟩
    obtain ⟨B, hB, rfl⟩ := List.mem_map.mp hk
    rw [← kI_inj (of_decide_eq_true e)]
    exact hB
  · intro h
    exact ⟨_, List.mem_map.mpr ⟨x, h, rfl⟩, decide_eq_true rfl⟩
theorem rowD_put (rows : List (List Nat)) (x : List Nat) : putK (rowD rows) (kI x) (.int 1) = rowD (addK rows x) := by
  unfold putK addK
  rw [rowD_any]
  by_cases h : x ∈ rows
  · rw [decide_eq_true h, if_pos rfl, if_pos h]
    unfold rowD
    rw [List.map_map]
    apply List.map_congr_left
    intro B _
    show (if kI B = kI x then (kI B, V.int 1) else (kI B, V.int 1)) = _
    split <;> rfl
  · rw [decide_eq_false h, if_neg Bool.false_ne_true, if_neg h]
    unfold rowD
    rw [List.map_append]
    rfl
theorem TT_.up {H : Hp} {as : List Addr} {xss : List (List Nat)} {o : Addr} {u : HO} (h : TT_ H as xss) (ho : ∀ xs, H o ≠ some (.tup xs)) : TT_ (upd H o u) as xss :=
  ⟨h.1, fun i a xs e1 e2 => by rw [upd_ne (fun z => ho _ (by rw [← z]; exact h.2 i a xs e1 e2))]; exact h.2 i a xs e1 e2⟩
theorem TT_.set {H : Hp} {as : List Addr} {xss : List (List Nat)} {a : Addr} {xs : List Nat} {s : Nat} (h : TT_ H as xss) (ha : H a = some (.tup (xs.map nI))) : TT_ H (as.set s a) (xss.set s xs) := by
  refine ⟨by rw [List.length_set, List.length_set]; exact h.1, fun i b ys e1 e2 => ?_⟩
  rw [List.getElem?_set] at e1 e2
  by_cases hs : s = i
  · rw [if_pos hs] at e1 e2
    by_cases hl : i < as.length
    · rw [if_pos (by omega)] at e1
      rw [if_pos (by rw [← h.1]; omega)] at e2
      rw [← Option.some.inj e1, ← Option.some.inj e2]
      exact ha
    · rw [if_neg (by omega)] at e1
      cases e1
  · rw [if_neg hs] at e1 e2
    exact h.2 i b ys e1 e2
theorem set_map_rt (cs : List Nat) (s x N : Nat) : (cs.map fun c => rt c N).set s (rt x N) = (cs.set s x).map fun c => rt c N := by rw [List.map_set]
theorem atI_last {α : Type} {xs : List α} {v : α} (h : xs.getLast? = some v) : atI xs (-1) = some v := by
  have hl : 0 < xs.length := by
    cases xs with
    | nil => cases h
    | cons a l => simp
  unfold atI ixN
  rw [if_neg (by decide), if_pos (by omega)]
  show xs[(-1 + (xs.length : Int)).toNat]? = some v
  rw [show (-1 + (xs.length : Int)).toNat = xs.length - 1 by omega, ← List.getLast?_eq_getElem?]
  exact h
theorem sum_le_len {α : Type} (f : α → Nat) (b : Nat) : ∀ L : List α, (∀ x ∈ L, f x ≤ b) → (L.map f).sum ≤ L.length * b
  | [], _ => by simp
  | x :: L, h => by
    have h1 := h x List.mem_cons_self
    have h2 := sum_le_len f b L (fun y hy => h y (List.mem_cons_of_mem _ hy))
    rw [List.map_cons, List.sum_cons, List.length_cons, Nat.succ_mul]
    omega
theorem fac24 {j : Nat} (h : j ≤ 4) : fac j ≤ 24 := by
  have : ∀ j, j ≤ 4 → fac j ≤ 24 := by decide
  exact this j h
theorem wgt_le {m : Nat} {B : List Nat} (hm : m ≤ 4) (hB : B.length ≤ 4) : wgt m B ≤ 24 * 24 := Nat.mul_le_mul (fac24 hB) (fac24 (by omega))
theorem stepB_len (B : List Nat) : ∀ (ot : List Nat) (acc : List (List Nat)), (ot.foldl (stepB B) acc).length ≤ acc.length + ot.length
  | [], acc => Nat.le_refl _
  | k :: ot, acc => by
    rw [List.foldl_cons, List.length_cons]
    have h := stepB_len B ot (stepB B acc k)
    have h2 : (stepB B acc k).length ≤ acc.length + 1 := by
      unfold stepB
      split
      · unfold addK
        split
        · omega
        · rw [List.length_append, List.length_singleton]; omega
      · omega
    omega
theorem rows_len (ot : List Nat) : ∀ (rows : List (List Nat)) (acc : List (List Nat)), (rows.foldl (fun acc B => ot.foldl (stepB B) acc) acc).length ≤ acc.length + rows.length * ot.length
  | [], acc => by simp
  | B :: rows, acc => by
    rw [List.foldl_cons, List.length_cons, Nat.succ_mul]
    have h := rows_len ot rows (ot.foldl (stepB B) acc)
    have h2 := stepB_len B ot acc
    omega
theorem stepB_snoc (B : List Nat) {ot : List Nat} {j v : Nat} (acc : List (List Nat)) (h : ot[j]? = some v) : (ot.take (j + 1)).foldl (stepB B) acc = stepB B ((ot.take j).foldl (stepB B) acc) v := by
  rw [List.take_add_one, h, List.foldl_append]
  rfl
theorem gT {t : TT} {σ : L2.St} {H : Hp} {Q : Bool → Hp → Prop} (h : ∀ Q' : Bool → Hp → Prop, (∀ v H, Q v H → Q' v H) → t σ H Q') : t σ H Q := h Q fun _ _ q => q
theorem go_par {i j : Nat} {ta : TA} {D : Ends} {σ : L2.St} {H : Hp} (h : ta σ H fun vs H1 => ∃ v w, vs = [v, w] ∧ D.nx ((σ.set i (some v)).set j (some w)) H1) : tPar i j ta D σ H := h
theorem go_lst {t : TA} {σ : L2.St} {H : Hp} {Q : VK} (h : t σ H fun xs H1 => xs.length ≤ sizeLine ∧ ∀ p, H1 p = none → Q (.ref p) (upd H1 p (.lst xs))) : tLst t σ H Q := h
theorem go_star {K : PySem.W.Frag} {te : TE} {t : TA} {σ : L2.St} {H : Hp} {Q : List V → Hp → Prop} (h : te σ H fun x H1 => ∃ p xs, x = V.ref p ∧ (SqT K H1 p xs ∨ SqL K H1 p xs) ∧ t σ H1 fun ys H2 => Q (xs ++ ys) H2) : StX.tStar K te t σ H Q := h
theorem go_cll {sp : Sp} {dvs : List V} {E : XK} {t : TA} {σ : L2.St} {H : Hp} {Q : VK} (h : t σ H fun vs H1 => sp (vs ++ dvs) H1 Q E) : tCall sp dvs E t σ H Q := h
section
variable {P : Program} {w : World} {K : PySem.W.Frag} {mg : Str → Option Value} {base : Heap}
def sp_spot_row (K : PySem.W.Frag) : Sp := fun vs H Q _ => ∃ (n : Nat) (a : Addr) (ws : List Nat) (k : Nat), vs = [nI n, .ref a, nI k] ∧ SqT K H a (ws.map nI) ∧ n ≤ 9 ∧ 0 < n ∧ ws.length ≤ n ∧ ws.length ≤ 4 ∧ (∀ x ∈ ws, x < n) ∧ k < ws.length ∧
  ∀ p as H2, H p = none → Ex H H2 → H2 p = some (.lst (as.map V.ref)) → TT_ H2 as ((cnts n ws k).map fun c => rt c (fac ws.length)) → Q (.ref p) H2
theorem c_spot_row (D : D0 K mg "spot_row" s_spot_row ["size", "wishes", "index"]) (T : Blt mg) (C_spots_of : Ca P w K mg base 1 "spots_of" (sp_spots_of K)) (C_ratio : Ca P w K mg base 1 "ratio" sp_ratio) (C_orders : Ca P w K mg base 1 "orders" sp_orders)
    (C_plus : Ca P w K mg base 2 "plus" (sp_plus K)) : Ca P w K mg base 3 "spot_row" (sp_spot_row K) := by
  refine D.cal sc_spot_row (fun vs H Q E h => ?_) (fun f cdv A outer s H vs Q E hr h => ?_)
  · obtain ⟨n, a, ws, k, rfl, _⟩ := h
    rfl
  · obtain ⟨n, a, ws, k, rfl, ha, h9, h0, hl, h4, hw, hk, q⟩ := h
    refine ⟨_, (pss_cons (ps_setLc (i := 3) (own := [("k", 12)]) (by rfl) sc_spot_row.nd rfl rfl (sw_true rfl rfl rfl (by decide +kernel)) (pi_range1 (by rfl) T.range_ (pa_cons (pe_callB (Rx.lenK K) (by rfl) T.len_ (by decide +kernel) (pa_cons (pv 1) pa_nil)) pa_nil)) (blkOk_by (own := [("k", 12)]) (by rfl)) (fun _ _ _ _ _ => (pg_name (i := 12) sc_spot_row.nd rfl (by first | exact Or.inl rfl | exact Or.inr rfl))) (fun _ _ _ _ _ => pts_one (pt_cmpR op_ne (pv 12) (pv 2) (nomark _))) (fun _ _ _ _ _ => (pv 12)))
      (pss_cons (ps_par (i := 4) (j := 5) (by rfl) sc_spot_row.nd rfl rfl (by decide) rfl rfl (pa_cons (pe_lc (own := [("place", 14)]) (by rfl) sc_spot_row.nd (pi_range1 (by rfl) T.range_ (pa_cons (pv 0) pa_nil)) (blkOk_by (own := [("place", 14)]) (by rfl)) (fun _ _ _ _ _ => (pg_name (i := 14) sc_spot_row.nd rfl (by first | exact Or.inl rfl | exact Or.inr rfl))) (fun _ _ _ _ _ => pts_nil) (fun _ _ _ _ _ => (pe_tup (pa_cons pe_int (pa_cons pe_int pa_nil))))) (pa_cons (pe_callB (Rx.lenK K) (by rfl) T.len_ (by decide +kernel) (pa_cons (pv 1) pa_nil)) pa_nil)) (by rfl))
      (pss_cons (ps_set (i := 6) sc_spot_row.nd rfl (by first | exact Or.inl rfl | exact Or.inr rfl) (Dd.pe_disp1 (hu_of hr) (pe_tup pa_nil) pe_int))
      (pss_cons (ps_for PassesOwn.never rfl (pi_range1 (by rfl) T.range_ (pa_cons (pv 5) pa_nil)) (pg_name (i := 7) sc_spot_row.nd rfl (by first | exact Or.inl rfl | exact Or.inr rfl))
        (pss_cons (ps_lock (ps_for PassesOwn.never rfl (pi_keys (pv 6)) (pg_name (i := 8) sc_spot_row.nd rfl (by first | exact Or.inl rfl | exact Or.inr rfl))
          (pss_cons (ps_set (i := 9) sc_spot_row.nd rfl (by first | exact Or.inl rfl | exact Or.inr rfl) (pe_ix (Rx.ixL K) (pe_ca C_spots_of hr (by decide) (by rfl) (pa_cons (pv 0) (pa_cons (pe_lst (StX.pa_star (pe_lc (own := [("k", 12)]) (by rfl) sc_spot_row.nd (Rx.piT K (pv 8)) (blkOk_by (own := [("k", 12)]) (by rfl)) (fun _ _ _ _ _ => (pg_name (i := 12) sc_spot_row.nd rfl (by first | exact Or.inl rfl | exact Or.inr rfl))) (fun _ _ _ _ _ => pts_nil) (fun _ _ _ _ _ => (pe_ix (Rx.ixT K) (pv 1) (pv 12) (fun _ _ => rfl)))) (pa_cons (pe_ix (Rx.ixT K) (pv 1) (pv 2) (fun _ _ => rfl)) pa_nil))) pa_nil))) (pe_un un_neg pe_int) (fun _ _ => rfl)))
          (pss_cons (ps_set (i := 10) sc_spot_row.nd rfl (by first | exact Or.inl rfl | exact Or.inr rfl) (pe_ca C_ratio hr (by decide) (by rfl) (pa_cons (pe_op op_mul (pe_ca C_orders hr (by decide) (by rfl) (pa_cons (pe_callB (Rx.lenK K) (by rfl) T.len_ (by decide +kernel) (pa_cons (pv 8) pa_nil)) pa_nil)) (pe_ca C_orders hr (by decide) (by rfl) (pa_cons (pe_op op_sub (pe_op op_sub (pv 5) pe_int) (pe_callB (Rx.lenK K) (by rfl) T.len_ (by decide +kernel) (pa_cons (pv 8) pa_nil))) pa_nil))) (pa_cons (pe_ca C_orders hr (by decide) (by rfl) (pa_cons (pv 5) pa_nil)) pa_nil))))
          (pss_one (ps_asg (pe_ca C_plus hr (by decide) (by rfl) (pa_cons (pe_ix (Rx.ixL K) (pv 4) (pv 9) (fun _ _ => rfl)) (pa_cons (pv 10) pa_nil))) (pg_sub (pv 4) (pv 9) set_list)))))))
        (pss_cons (ps_set (i := 11) sc_spot_row.nd rfl (by first | exact Or.inl rfl | exact Or.inr rfl) pe_dnewT)
        (pss_cons (ps_lock (ps_for PassesOwn.never rfl (pi_keys (pv 6)) (pg_name (i := 8) sc_spot_row.nd rfl (by first | exact Or.inl rfl | exact Or.inr rfl))
          (pss_one (ps_for PassesOwn.never rfl (Rx.piL K (pv 3)) (pg_name (i := 12) sc_spot_row.nd rfl (by first | exact Or.inl rfl | exact Or.inr rfl))
            (pss_one (ps_if (PW.pt (pw_or (pt_not (pt_truth (pv 8) (by intro _; rfl))) (pw_or1 (pt_cmpR op_gt (pv 12) (pe_ix (Rx.ixT K) (pv 8) (pe_un un_neg pe_int) (fun _ _ => rfl)) (nomark _)))))
              (pss_cons (ps_set (i := 13) sc_spot_row.nd rfl (by first | exact Or.inl rfl | exact Or.inr rfl) (pe_tup (StX.pa_star (pv 8) (pa_cons (pv 12) pa_nil))))
              (pss_one (ps_dput (hu_of hr) (pv 11) (pv 13) pe_int rfl))) pss_nil))))))
        (pss_one (ps_set (i := 6) sc_spot_row.nd rfl (by first | exact Or.inl rfl | exact Or.inr rfl) (pv 11)))))))
      (pss_one (ps_ret (pv 4))))))), ?_⟩
    refine go_seq (go_asg (gL fun Q1 hQ1 => ?_))
    refine ⟨_, rfl, a, _, rfl, .inr ha, _, rfl, by simp only [List.length_map]; omega, by simp only [List.length_map]; omega, ?_⟩
    have eN : (((ws.map nI).length : Nat) : Int).toNat = ws.length := by rw [List.length_map]; omega
    rw [eN]
    refine lc_vals (fun i => decide (i ≠ k)) (fun i => nI i) (walk_range (lo := 0) (n := ws.length)) (fun _ _ => True.intro) (by omega) (fun i x H3 H4 hi e3 y Ry Rn q1 q2 => ?_) (fun D1 H1 nD e1 hD => ?_)
    · obtain ⟨rfl, rfl⟩ := y
      have ex : (fun i : Nat => V.int (0 + (i : Int))) i = nI i := by show V.int _ = V.int _; rw [Int.zero_add]
      rw [ex]
      refine ⟨rfl, ?_⟩
      refine ⟨_, rfl, _, rfl, rfl, _, rfl, ?_⟩
      by_cases hik : i = k
      · rw [decide_eq_false (show ¬ i ≠ k from fun z => z hik)] at q2
        exact iteNS (congrArg nI hik) (q2 rfl _ (Ex.refl _))
      · rw [decide_eq_true (show i ≠ k from hik)] at q1
        rw [decide_eq_false (show ¬ nI i = nI k from fun z => hik (nI_inj z))]
        exact iteT ⟨_, rfl, q1 rfl _ (Ex.refl _)⟩
    refine hQ1 _ _ ?_
    have hD1 : H1 D1 = some (.lst ((oth ws.length k).map nI)) := by
      rw [hD]
      rfl
    refine go_name ?_
    dsimp only
    have hN0 := fac_pos ws.length
    have hN24 : fac ws.length ≤ 24 := by
      have : ∀ j, j ≤ 4 → fac j ≤ 24 := by decide
      exact this _ h4
    refine go_seq (go_par (go_cons (gL fun Q2 hQ2 => ?_)))
    refine ⟨_, rfl, (n : Int), rfl, by omega, by omega, ?_⟩
    refine lc_gen (fun D i acc H' => ∃ as, acc = as.map V.ref ∧ TT_ H' as ((List.replicate i 0).map fun c => rt c (fac ws.length))) (walk_range (lo := 0) (n := (n : Int).toNat)) (fun _ _ => True.intro) (by omega)
      (fun D _ => ⟨[], rfl, TT_.nil⟩) (fun D i acc x H3 H4 hi nD e3 hD hA y Ry Rn k1 _ => ?_) (fun L acc H2 nL e2 hL _ hA => ?_)
    · obtain ⟨rfl, rfl⟩ := y
      obtain ⟨as, rfl, hT⟩ := hA
      refine ⟨rfl, goYes ⟨by show 2 ≤ sizeLine; decide, fun p hp => ?_⟩⟩
      have ep : Ex H4 (upd H4 p (.tup [.int 0, .int 1])) := Ex.new hp
      refine k1 _ _ ep ⟨as ++ [p], by rw [List.map_append]; rfl, ?_⟩
      have hT2 : TT_ (upd (upd H4 p (.tup [.int 0, .int 1])) D (.lst (as.map V.ref ++ [.ref p]))) as ((List.replicate i 0).map fun c => rt c (fac ws.length)) := TT_.wr (hT.ex ep) (ep.lst hD)
      rw [List.replicate_succ', List.map_append]
      refine hT2.snoc (xs := rt 0 (fac ws.length)) ?_
      have npD : p ≠ D := fun z => by rw [z, hD] at hp; cases hp
      rw [upd_ne npD, upd_same, rt_zero hN0]
      rfl
    obtain ⟨as0, rfl, hT0⟩ := hA
    have hn' : (n : Int).toNat = n := by omega
    rw [hn'] at hT0
    refine hQ2 _ _ ?_
    have e12 := e1.trans e2
    refine ⟨_, rfl, a, _, rfl, .inr (e12.st ha), _, _, rfl, ?_⟩
    have hD2 := e2.lst hD1
    have nL0 : H L = none := e1.free L nL
    have nDL : D1 ≠ L := fun z => by rw [← z, hD1] at nL; cases nL
    rw [List.length_map]
    dsimp only
    refine go_seq (go_asg ?_)
    refine fun d nd => ?_
    refine ⟨Nat.zero_le _, fun b nb => ⟨by rw [upd_ne (ne_of_none upd_same nb)]; exact upd_same, b, [], rfl, upd_same, ?_⟩⟩
    have nd0 : H d = none := e12.free d nd
    have nb0 : H2 b = none := by rw [upd_ne (ne_of_none upd_same nb).symm] at nb; exact nb
    have e23 : Ex H2 (upd (upd (upd H2 d (.dT [])) b (.tup [])) d (.dT [([], V.int 1)])) := (((Ex.refl H2).mut nd).mut nb0).mut nd
    have hdd : upd (upd (upd H2 d (.dT [])) b (.tup [])) d (.dT [([], V.int 1)]) d = some (.dT (rowD (rowsN ws.length k 0))) := upd_same
    have eS : (V.int ((ws.length : Nat) : Int)) = nI ws.length := rfl
    rw [eS]
    have e13 := e12.trans e23
    have hD3 := e23.lst hD2
    have hL3 := e23.lst hL
    have hT3 := hT0.ex e23
    refine go_name ?_
    dsimp only
    generalize upd (upd (upd H2 d (.dT [])) b (.tup [])) d (.dT [([], V.int 1)]) = H3 at e13 hdd hD3 hL3 hT3
    refine go_seq ?_
    refine ⟨_, rfl, ((ws.length : Nat) : Int), rfl, by omega, by omega, ?_⟩
    have eN2 : (((ws.length : Nat) : Int)).toNat = ws.length := by omega
    rw [eN2]
    refine for_it (walk_range (lo := 0) (n := ws.length)) (fun t σ' H' => ∃ d as y7 y8 y9 y10 y11 y12 y13, σ' = [some (nI n), some (.ref a), some (nI k), some (.ref D1), some (.ref L), some (nI ws.length), some (.ref d), y7, y8, y9, y10, y11, y12, y13, none] ∧
        Ex H H' ∧ H d = none ∧ H' D1 = some (.lst ((oth ws.length k).map nI)) ∧ H' L = some (.lst (as.map V.ref)) ∧ TT_ H' as ((cntT n ws k t).map fun c => rt c (fac ws.length)) ∧ H' d = some (.dT (rowD (rowsN ws.length k t))))
      ⟨d, as0, _, _, _, _, _, _, _, rfl, e13, nd0, hD3, hL3, hT3, hdd⟩ (fun _ _ _ _ _ => True.intro) (fun t x σ' H0 H1 ht p y => ?_) (fun σ' H' p => ?_)
    · obtain ⟨d, as, y7, y8, y9, y10, y11, y12, y13, rfl, eh, nd, hD, hL, hT, hd⟩ := p
      obtain ⟨rfl, rfl⟩ := y
      have hg := rows_good h4 hk ht
      unfold goodB at hg
      rw [Bool.and_eq_true, List.all_eq_true] at hg
      obtain ⟨hg1, hg2⟩ := hg
      have hrl := of_decide_eq_true hg1
      have ndL : d ≠ L := fun z => by rw [z, hL] at hd; cases hd
      have ndD : d ≠ D1 := fun z => by rw [z, hD] at hd; cases hd
      have hTd : ∀ {H' : Hp} {u : HO}, H' d = some u → (∀ xs, u ≠ .tup xs) → ∀ xs, H' d ≠ some (.tup xs) := fun h1 h2 xs z => by rw [h1] at z; exact h2 xs (Option.some.inj z)
      refine go_name ?_
      refine go_seq ?_
      refine ⟨d, _, hd, True.intro, fun od => ?_⟩
      refine ⟨.ref d, rfl, d, od, rfl, .inr ⟨_, upd_same, ?_⟩⟩
      refine for_it (walk_keysT (d := d) (o := od) (kvs := rowD (rowsN ws.length k t))) (fun i σ' H' => ∃ as y8 y9 y10, σ' = [some (nI n), some (.ref a), some (nI k), some (.ref D1), some (.ref L), some (nI ws.length), some (.ref d), some (V.int (0 + (t : Int))), y8, y9, y10, y11, y12, y13, none] ∧
          Ex H H' ∧ H' D1 = some (.lst ((oth ws.length k).map nI)) ∧ H' L = some (.lst (as.map V.ref)) ∧ TT_ H' as ((((rowsN ws.length k t).take i).foldl (stepC n ws k) (cntT n ws k t)).map fun c => rt c (fac ws.length)) ∧ H' d = some (.frz od (.dT (rowD (rowsN ws.length k t)))))
        ⟨as, _, _, _, rfl, eh.mut nd, by rw [upd_ne ndD.symm]; exact hD, by rw [upd_ne ndL.symm]; exact hL, TT_.up hT (hTd hd (fun _ z => by cases z)), upd_same⟩ (fun i σ' H' _ p => by obtain ⟨_, _, _, _, _, _, _, _, _, h⟩ := p; exact h) (fun i x σ' H1 H2 hi p y => ?_) (fun σ' H' p => ?_)
      · obtain ⟨as, z8, z9, z10, rfl, eh1, hD1', hL1, hT1, hd1⟩ := p
        obtain ⟨rfl, kk, vv, qk, hkk, rfl, hqk⟩ := y
        have hi' : i < (rowsN ws.length k t).length := by unfold rowD at hi; rw [List.length_map] at hi; exact hi
        obtain ⟨B, hB⟩ : ∃ B, (rowsN ws.length k t)[i]? = some B := ⟨_, List.getElem?_eq_getElem hi'⟩
        have hkB : kk = kI B := by
          unfold rowD at hkk
          rw [List.getElem?_map, hB] at hkk
          exact (congrArg Prod.fst (Option.some.inj hkk)).symm
        subst hkB
        rw [kI_map] at hqk
        have hBg := hg2 B (List.mem_of_getElem? hB)
        rw [Bool.and_eq_true, List.all_eq_true] at hBg
        have hBl : B.length = t := of_decide_eq_true hBg.1
        have hBm : ∀ j ∈ B, j < ws.length := fun j hj => of_decide_eq_true (hBg.2 j hj)
        have hwk : (ws.map nI)[k]? = some (nI (ws.getD k 0)) := get_nI (get_getD hk)
        have hwkn : ws.getD k 0 < n := hw _ (List.mem_of_getElem? (get_getD hk))
        have hatn : ∀ x ∈ at_ ws B, x < n := fun x hx => by
          unfold at_ at hx
          obtain ⟨j, hj, rfl⟩ := List.mem_map.mp hx
          exact hw _ (List.mem_of_getElem? (get_getD (hBm j hj)))
        have hatl : (at_ ws B).length = t := by unfold at_; rw [List.length_map, hBl]
        refine go_name ?_
        refine go_seq (go_asg (go_op (gC fun Q3 hQ3 => ?_)))
        refine go_cll (go_cons ⟨_, rfl, go_cons (go_lst (go_star (gL fun Q4 hQ4 => ?_)))⟩)
        refine ⟨.ref qk, rfl, qk, rfl, ⟨_, st_of hqk⟩, ?_⟩
        refine lc_vals (fun _ => true) (fun j => nI (ws.getD (B.getD j 0) 0)) (walk_tup (K := K) (a := qk) (xs := B.map nI)) (fun H' e' => st_of (e'.tup hqk)) (by rw [List.length_map]; omega) (fun j x H5 H6 hj e5 y Ry Rn q1 _ => ?_) (fun D5 H5 nD5 e5 hD5 => ?_)
        · obtain ⟨rfl, yv⟩ := y
          obtain ⟨v, hv, rfl⟩ := nI_get yv
          rw [getD_of hv] at q1
          have hvl := hBm v (List.mem_of_getElem? hv)
          have hwv : (ws.map nI)[v]? = some (nI (ws.getD v 0)) := get_nI (get_getD hvl)
          exact ⟨rfl, goYes ⟨_, rfl, _, rfl, a, _, v, nI (ws.getD v 0), rfl, rfl, (eh1.trans e5).st ha, atI_nat hwv, q1 rfl _ (Ex.refl _)⟩⟩
        refine hQ4 _ _ ?_
        have eD : giv (B.map nI).length (fun _ => true) (fun j => nI (ws.getD (B.getD j 0) 0)) = (at_ ws B).map nI := by
          rw [List.length_map, giv_list B (fun _ => true) (fun j => nI (ws.getD j 0)), List.filter_eq_self.mpr (fun _ _ => rfl)]
          unfold at_
          rw [List.map_map]
          rfl
        rw [eD] at hD5
        have e15 := eh1.trans e5
        refine ⟨D5, _, rfl, .inr (sl_of hD5), _, rfl, _, rfl, a, _, k, nI (ws.getD k 0), rfl, rfl, e15.st ha, atI_nat hwk, ?_⟩
        refine ⟨by simp only [List.length_append, List.length_map, List.length_cons, List.length_nil]; exact sz_ok (by omega), fun lp hlp => ?_⟩
        have e6 : Ex H5 (upd H5 lp (.lst ((at_ ws B).map nI ++ [nI (ws.getD k 0)]))) := Ex.new hlp
        refine ⟨n, lp, at_ ws B ++ [ws.getD k 0], rfl, .inr (sl_of (by rw [upd_same, List.map_append]; rfl)), by rw [List.length_append, List.length_singleton, hatl]; omega, h9, fun x hx => ?_, fun o H7 ho e7 ho7 => ?_⟩
        · rcases List.mem_append.mp hx with hx | hx
          · exact hatn x hx
          · rw [List.mem_singleton] at hx; rw [hx]; exact hwkn
        refine hQ3 _ _ ?_
        have e57 := e5.trans (e6.trans e7)
        have hlast : ((spots n (at_ ws B ++ [ws.getD k 0])).map nI).getLast? = some (nI (spotOf n ws k B)) := by
          rw [spots_snoc]
          unfold add1 spotOf
          rw [List.map_append, List.map_singleton, List.getLast?_concat]
        refine ⟨_, rfl, o, _, -1, nI (spotOf n ws k B), rfl, rfl, sl_of ho7, atI_last hlast, ?_⟩
        refine go_name ?_
        dsimp only
        have hsn : spotOf n ws k B < n := by
          unfold spotOf
          exact nx_lt (fr_of (by rw [spots_len, hatl]; omega) hwkn)
        have hq7 := e57.tup hqk
        generalize hsp : spotOf n ws k B = sp at hlast hsn
        have hcsl : (((rowsN ws.length k t).take i).foldl (stepC n ws k) (cntT n ws k t)).length = n := by rw [fold_stepC_len, cntT_len]
        have hcb : (((rowsN ws.length k t).take i).foldl (stepC n ws k) (cntT n ws k t)).getD sp 0 ≤ 100000 := by
          have h1 := le_sum (((rowsN ws.length k t).take i).foldl (stepC n ws k) (cntT n ws k t)) sp
          have h2 := fold_sum n ws k ((rowsN ws.length k t).take i) (cntT n ws k t)
          have h3 := cntT_sum (n := n) h4 hk (Nat.le_of_lt ht)
          have h5 := sum_le_len (wgt ws.length) (24 * 24) ((rowsN ws.length k t).take i) (fun C hC => by
            have := hg2 C (List.mem_of_mem_take hC)
            rw [Bool.and_eq_true] at this
            exact wgt_le h4 (by rw [of_decide_eq_true this.1]; omega))
          have h6 : ((rowsN ws.length k t).take i).length * (24 * 24) ≤ 8 * (24 * 24) := Nat.mul_le_mul_right _ (by rw [List.length_take]; omega)
          omega
        have hstep : ((rowsN ws.length k t).take (i + 1)).foldl (stepC n ws k) (cntT n ws k t) = addAt (((rowsN ws.length k t).take i).foldl (stepC n ws k) (cntT n ws k t)) sp (wgt ws.length B) := by
          rw [List.take_add_one, hB, List.foldl_append, ← hsp]
          rfl
        have hx : fac t * fac (ws.length - 1 - t) = wgt ws.length B := by unfold wgt; rw [hBl]
        have hxb : fac t * fac (ws.length - 1 - t) ≤ 24 * 24 := Nat.mul_le_mul (fac24 (by omega)) (fac24 (by omega))
        have hf1 := fac24 (j := t) (by omega)
        have hf2 := fac24 (j := ws.length - 1 - t) (by omega)
        generalize ((rowsN ws.length k t).take i).foldl (stepC n ws k) (cntT n ws k t) = cs at hT1 hcsl hcb hstep
        have hasl : as.length = n := by rw [hT1.1, List.length_map, hcsl]
        obtain ⟨c0, hc0⟩ : ∃ c0, as[sp]? = some c0 := ⟨_, List.getElem?_eq_getElem (by omega)⟩
        have hc1 : (cs.map fun c => rt c (fac ws.length))[sp]? = some (rt (cs.getD sp 0) (fac ws.length)) := by
          rw [List.getElem?_map, get_getD (by omega)]
          rfl
        have hctup := hT1.2 sp c0 _ hc0 hc1
        have eBl : (B.map nI).length = t := by rw [List.length_map, hBl]
        refine go_seq (go_asg (gC fun Q5 hQ5 => ?_))
        refine ⟨_, rfl, qk, _, rfl, .inr (st_of hq7), t, by rw [eBl]; rfl, by omega, ?_⟩
        refine ⟨_, rfl, _, _, rfl, rfl, _, rfl, qk, _, rfl, .inr (st_of hq7), _, _, rfl, rfl, ws.length - 1 - t, ?_, by omega, ?_⟩
        · rw [eBl]
          show [V.int _] = [V.int _]
          rw [show ((ws.length : Nat) : Int) - 1 - (t : Int) = ((ws.length - 1 - t : Nat) : Int) by omega]
        refine ⟨_, _, rfl, rfl, .inl ⟨by omega, by omega⟩, _, rfl, ws.length, rfl, by omega, ?_⟩
        refine ⟨wgt ws.length B, fac ws.length, ?_, hN0, by omega, fun sh H8 hsh e8 hsh8 => ?_⟩
        · rw [← hx, ← nI_mul]
          rfl
        refine hQ5 _ _ ?_
        refine go_name ?_
        dsimp only
        have e18 := e57.trans e8
        have hL8 := e18.lst hL1
        refine ⟨_, rfl, _, rfl, L, _, sp, .ref c0, rfl, rfl, sl_of hL8, atI_nat (by rw [List.getElem?_map, hc0]; rfl), _, rfl, ?_⟩
        refine ⟨c0, sh, tp (cs.getD sp 0) (fac ws.length), bt (cs.getD sp 0) (fac ws.length), tp (wgt ws.length B) (fac ws.length), bt (wgt ws.length B) (fac ws.length), rfl, st_of (e18.tup hctup), st_of hsh8, ?_, ?_, bt_pos hN0, bt_pos hN0, ?_, ?_, fun r H9 hr9 e9 hr99 => ?_⟩
        · have := tp_le (cs.getD sp 0) (fac ws.length); omega
        · have := tp_le (wgt ws.length B) (fac ws.length); omega
        · have := bt_le (cs.getD sp 0) (fac ws.length); omega
        · have := bt_le (wgt ws.length B) (fac ws.length); omega
        rw [rt_plus hN0] at hr99
        have e19 := e18.trans e9
        have hL9 := e19.lst hL1
        refine ⟨_, rfl, _, rfl, L, _, sp, sp, rfl, rfl, hL9, ixN_nat (by rw [List.length_map]; omega), ?_⟩
        have nrL : r ≠ L := fun z => by rw [z, hL9] at hr99; cases hr99
        refine ⟨as.set sp r, _, _, _, rfl, (eh1.trans e19).mut nL0, by rw [upd_ne nDL]; exact e19.lst hD1', by rw [upd_same, List.map_set], ?_, by rw [upd_ne ndL]; exact e19.keep _ _ (fun _ z => by cases z) hd1⟩
        rw [hstep]
        unfold addAt
        rw [← set_map_rt]
        refine TT_.set (TT_.wr (TT_.ex hT1 e19) hL9) ?_
        rw [upd_ne nrL]
        exact hr99
      · obtain ⟨as, z8, z9, z10, rfl, eh1, hD1', hL1, hT1, hd1⟩ := p
        refine ⟨hd1, ?_⟩
        have hrows : (rowD (rowsN ws.length k t)).length = (rowsN ws.length k t).length := by unfold rowD; rw [List.length_map]
        rw [hrows, List.take_length] at hT1
        have eC : (rowsN ws.length k t).foldl (stepC n ws k) (cntT n ws k t) = cntT n ws k (t + 1) := rfl
        rw [eC] at hT1
        have hT2 := TT_.up (u := .dT (rowD (rowsN ws.length k t))) hT1 (hTd hd1 (fun _ z => by cases z))
        have hd2 : upd H' d (.dT (rowD (rowsN ws.length k t))) d = some (.dT (rowD (rowsN ws.length k t))) := upd_same
        have hD2' : upd H' d (.dT (rowD (rowsN ws.length k t))) D1 = some (.lst ((oth ws.length k).map nI)) := by rw [upd_ne ndD.symm]; exact hD1'
        have hL2 : upd H' d (.dT (rowD (rowsN ws.length k t))) L = some (.lst (as.map V.ref)) := by rw [upd_ne ndL.symm]; exact hL1
        have eh2 : Ex H (upd H' d (.dT (rowD (rowsN ws.length k t)))) := eh1.mut nd
        generalize upd H' d (.dT (rowD (rowsN ws.length k t))) = H5 at hT2 hd2 hD2' hL2 eh2
        dsimp only
        refine go_seq (go_asg ?_)
        refine fun dm hdm => ?_
        have ndm0 : H dm = none := eh2.free dm hdm
        have e6 : Ex H5 (upd H5 dm (.dT [])) := Ex.new hdm
        have ndmd : dm ≠ d := fun z => by rw [z, hd2] at hdm; cases hdm
        have ndmL : dm ≠ L := fun z => by rw [z, hL2] at hdm; cases hdm
        have ndmD : dm ≠ D1 := fun z => by rw [z, hD2'] at hdm; cases hdm
        have hd6 := e6.keep d _ (fun _ z => by cases z) hd2
        have hD6 := e6.lst hD2'
        have hL6 := e6.lst hL2
        have hT6 := TT_.ex hT2 e6
        have hdm6 : upd H5 dm (.dT []) dm = some (.dT []) := upd_same
        have eh6 := eh2.trans e6
        refine go_name ?_
        dsimp only
        generalize upd H5 dm (.dT []) = H6 at hd6 hD6 hL6 hT6 hdm6 eh6
        have hol : (oth ws.length k).length ≤ 4 := by
          unfold oth
          refine Nat.le_trans (List.length_filter_le _ _) ?_
          rw [List.length_range]
          exact h4
        refine go_seq ?_
        refine ⟨d, _, hd6, True.intro, fun od2 => ?_⟩
        refine ⟨.ref d, rfl, d, od2, rfl, .inr ⟨_, upd_same, ?_⟩⟩
        refine for_it (walk_keysT (d := d) (o := od2) (kvs := rowD (rowsN ws.length k t))) (fun i σ' H' => ∃ y8 y12 y13, σ' = [some (nI n), some (.ref a), some (nI k), some (.ref D1), some (.ref L), some (nI ws.length), some (.ref d), some (V.int (0 + (t : Int))), y8, z9, z10, some (.ref dm), y12, y13, none] ∧
            Ex H H' ∧ H' D1 = some (.lst ((oth ws.length k).map nI)) ∧ H' L = some (.lst (as.map V.ref)) ∧ TT_ H' as ((cntT n ws k (t + 1)).map fun c => rt c (fac ws.length)) ∧
            H' dm = some (.dT (rowD (((rowsN ws.length k t).take i).foldl (fun acc B => (oth ws.length k).foldl (stepB B) acc) []))) ∧ H' d = some (.frz od2 (.dT (rowD (rowsN ws.length k t)))))
          ⟨_, _, _, rfl, eh6.mut nd, by rw [upd_ne ndD.symm]; exact hD6, by rw [upd_ne ndL.symm]; exact hL6, TT_.up hT6 (hTd hd6 (fun _ z => by cases z)), by rw [upd_ne ndmd]; exact hdm6, upd_same⟩
          (fun i σ' H' _ p => by obtain ⟨_, _, _, _, _, _, _, _, _, h⟩ := p; exact h) (fun i x σ' H7 H8 hi p y => ?_) (fun σ' H7 p => ?_)
        · obtain ⟨x8, x12, x13, rfl, eh7, hD7, hL7, hT7, hm7, hd7⟩ := p
          obtain ⟨rfl, kk, vv, qk, hkk, rfl, hqk⟩ := y
          have hi' : i < (rowsN ws.length k t).length := by rw [hrows] at hi; exact hi
          obtain ⟨B, hB⟩ : ∃ B, (rowsN ws.length k t)[i]? = some B := ⟨_, List.getElem?_eq_getElem hi'⟩
          have hkB : kk = kI B := by
            unfold rowD at hkk
            rw [List.getElem?_map, hB] at hkk
            exact (congrArg Prod.fst (Option.some.inj hkk)).symm
          subst hkB
          rw [kI_map] at hqk
          have hBl4 : B.length ≤ 4 := by
            have h1 := hg2 B (List.mem_of_getElem? hB)
            rw [Bool.and_eq_true] at h1
            rw [of_decide_eq_true h1.1]
            omega
          have hMl := rows_len (oth ws.length k) ((rowsN ws.length k t).take i) []
          have hMl2 : ((rowsN ws.length k t).take i).length * (oth ws.length k).length ≤ 8 * 4 := Nat.mul_le_mul (by rw [List.length_take]; omega) hol
          have hMs : ((rowsN ws.length k t).take (i + 1)).foldl (fun acc B => (oth ws.length k).foldl (stepB B) acc) [] = (oth ws.length k).foldl (stepB B) (((rowsN ws.length k t).take i).foldl (fun acc B => (oth ws.length k).foldl (stepB B) acc) []) := by
            rw [List.take_add_one, hB, List.foldl_append]
            rfl
          rw [hMs]
          rw [List.length_nil] at hMl
          generalize ((rowsN ws.length k t).take i).foldl (fun acc B => (oth ws.length k).foldl (stepB B) acc) [] = M at hMl hm7
          refine go_name ?_
          refine ⟨.ref D1, rfl, D1, rfl, ⟨_, sl_of hD7⟩, ?_⟩
          refine for_it (walk_list (K := K) (a := D1) (xs := (oth ws.length k).map nI)) (fun j σ' H' => ∃ y12 y13, σ' = [some (nI n), some (.ref a), some (nI k), some (.ref D1), some (.ref L), some (nI ws.length), some (.ref d), some (V.int (0 + (t : Int))), some (.ref qk), z9, z10, some (.ref dm), y12, y13, none] ∧
              Ex H H' ∧ H' D1 = some (.lst ((oth ws.length k).map nI)) ∧ H' L = some (.lst (as.map V.ref)) ∧ TT_ H' as ((cntT n ws k (t + 1)).map fun c => rt c (fac ws.length)) ∧
              H' dm = some (.dT (rowD (((oth ws.length k).take j).foldl (stepB B) M))) ∧ H' d = some (.frz od2 (.dT (rowD (rowsN ws.length k t)))) ∧ H' qk = some (.tup (B.map nI)))
            ⟨_, _, rfl, eh7, hD7, hL7, hT7, hm7, hd7, hqk⟩ (fun j σ' H' _ p => by obtain ⟨_, _, _, _, h, _⟩ := p; exact sl_of h) (fun j x σ' H8 H9 hj p y => ?_) (fun σ' H8 p => ?_)
          · obtain ⟨u12, u13, rfl, eh8, hD8, hL8, hT8, hm8, hd8, hq8⟩ := p
            obtain ⟨rfl, yv⟩ := y
            obtain ⟨v, hv, rfl⟩ := nI_get yv
            have hlen : (((oth ws.length k).take j).foldl (stepB B) M).length ≤ 100 := by
              have h1 := stepB_len B ((oth ws.length k).take j) M
              have h2 : ((oth ws.length k).take j).length ≤ 4 := by rw [List.length_take]; omega
              omega
            have hsn := stepB_snoc B M hv
            refine go_name ?_
            refine go_ifs (gT fun Q7 hQ7 => ?_)
            refine (show Q7 (okB B v) H9 → _ from fun hs => ?_) (hQ7 _ _ ?_)
            · refine ⟨_, rfl, !(B.map nI).isEmpty, .inr (.inl ⟨_, st_of hq8, rfl⟩), ?_⟩
              cases hBc : B.getLast? with
              | none =>
                have hBn : B = [] := List.getLast?_eq_none_iff.mp hBc
                subst hBn
                exact iteT hs
              | some z =>
                have hBne : B ≠ [] := fun e => by rw [e] at hBc; cases hBc
                have e1 : (B.map nI).isEmpty = false := by
                  cases B with
                  | nil => exact absurd rfl hBne
                  | cons b B' => rfl
                rw [e1]
                refine iteF ?_
                have e2 : okB B v = decide (z < v) := by
                  unfold okB
                  have : B.isEmpty = false := by
                    cases B with
                    | nil => exact absurd rfl hBne
                    | cons b B' => rfl
                  rw [this, Bool.false_or, List.getLastD_eq_getLast?, hBc]
                  rfl
                rw [e2] at hs
                refine ⟨_, rfl, _, rfl, _, rfl, qk, _, -1, nI z, rfl, rfl, st_of hq8, atI_last (by rw [List.getLast?_map, hBc]; rfl), _, _, rfl, rfl, _, rfl, ?_⟩
                rw [show decide ((z : Int) < (v : Int)) = decide (z < v) by rw [decide_eq_decide]; omega]
                exact hs
            · refine ite2 (fun hok => ?_) (fun hok => ?_)
              · refine ⟨_, rfl, qk, _, rfl, .inl (st_of hq8), _, rfl, by simp only [List.length_append, List.length_map, List.length_cons, List.length_nil]; exact sz_ok (by omega), fun lt hlt => ?_⟩
                have e9 : Ex H9 (upd H9 lt (.tup (B.map nI ++ [nI v]))) := Ex.new hlt
                have hlt9 : upd H9 lt (.tup (B.map nI ++ [nI v])) lt = some (.tup ((kI (B ++ [v])).map kV)) := by
                  rw [upd_same, kI_map, List.map_append]
                  rfl
                have hm9 := e9.keep dm _ (fun _ z => by cases z) hm8
                have hd9 := e9.keep d _ (fun _ z => by cases z) hd8
                have nqm : qk ≠ dm := fun z => by
                  have h1 := e9.tup hq8
                  rw [z, hm9] at h1
                  cases h1
                refine ⟨_, rfl, _, rfl, dm, _, rfl, DPut.t (k := kI (B ++ [v])) hm9 hlt9 (sz_lt (by unfold rowD; rw [List.length_map]; omega)), ?_⟩
                rw [rowD_put]
                refine ⟨_, _, rfl, (eh8.trans e9).mut ndm0, by rw [upd_ne ndmD.symm]; exact e9.lst hD8, by rw [upd_ne ndmL.symm]; exact e9.lst hL8, TT_.up (TT_.ex hT8 e9) (fun xs z => by rw [hm9] at z; cases z), ?_, by rw [upd_ne ndmd.symm]; exact hd9, ?_⟩
                · rw [upd_same, hsn]
                  unfold stepB
                  rw [if_pos hok]
                · rw [upd_ne nqm]
                  exact e9.tup hq8
              · refine ⟨_, _, rfl, eh8, hD8, hL8, hT8, ?_, hd8, hq8⟩
                rw [hsn]
                unfold stepB
                rw [if_neg hok]
                exact hm8
          · obtain ⟨u12, u13, rfl, eh8, hD8, hL8, hT8, hm8, hd8, hq8⟩ := p
            rw [List.length_map, List.take_length] at hm8
            exact ⟨_, _, _, rfl, eh8, hD8, hL8, hT8, hm8, hd8⟩
        · obtain ⟨x8, x12, x13, rfl, eh7, hD7, hL7, hT7, hm7, hd7⟩ := p
          refine ⟨hd7, ?_⟩
          rw [hrows, List.take_length] at hm7
          refine ⟨_, rfl, ?_⟩
          refine ⟨dm, as, _, _, _, _, _, _, _, rfl, eh7.mut nd, ndm0, by rw [upd_ne ndD.symm]; exact hD7, by rw [upd_ne ndL.symm]; exact hL7, TT_.up hT7 (hTd hd7 (fun _ z => by cases z)), by rw [upd_ne ndmd]; exact hm7⟩
    · obtain ⟨d, as, y7, y8, y9, y10, y11, y12, y13, rfl, eh, _, _, hLL, hTT, _⟩ := p
      exact ⟨_, rfl, q L as H' nL0 eh hLL hTT⟩
end
end Px
namespace Px
open PySem L2 PyProof.Rows Kx Tx Ma
def dist (n w s : Nat) : Nat := (s + n - w) % n
theorem nI_sub {n w s : Nat} (hw : w < n) : V.int (((s : Int) - (w : Int)) % (n : Int)) = nI (dist n w s) := by
  unfold nI dist
  rw [Int.natCast_emod, show ((s + n - w : Nat) : Int) = (s : Int) - w + n by omega, Int.add_emod_right]
def wlks (n : Nat) (ws : List Nat) (k i : Nat) : List Nat := (List.range i).map fun s => dist n (ws.getD k 0) s * (cnts n ws k).getD s 0
theorem wlks_succ (n : Nat) (ws : List Nat) (k i : Nat) : wlks n ws k (i + 1) = wlks n ws k i ++ [dist n (ws.getD k 0) i * (cnts n ws k).getD i 0] := by
  unfold wlks
  rw [List.range_succ, List.map_append]
  rfl
section
variable {P : Program} {w : World} {K : PySem.W.Frag} {mg : Str → Option Value} {base : Heap}
structure Row4 (n : Nat) (ws : List Nat) (k : Nat) : Prop where
  n2 : 2 ≤ n
  n9 : n ≤ 9
  len : ws.length ≤ n
  l4 : ws.length ≤ 4
  lt : ∀ x ∈ ws, x < n
  k : k < ws.length
def sp_chances (K : PySem.W.Frag) (Pt : Addr) : Sp := fun vs H Q _ => ∃ (n : Nat) (a : Addr) (ws : List Nat) (k : Nat), vs = [nI n, .ref a, nI k] ∧ Rd H a (.tup (ws.map nI)) ∧ GxR.TabG H Pt ∧ Row4 n ws k ∧
  ∀ p as H2, H p = none → Ex H H2 → H2 p = some (.tup (as.map V.ref)) → TT_ H2 as ((cnts n ws k).map fun c => rt c (fac ws.length)) → Q (.ref p) H2
theorem c_chances {Pt : Addr} (D : D0 K mg "spot_chances" s_spot_chances ["size", "wishes", "index"]) (T : Blt mg) (C_need_index : Ca P w K mg base 7 "need_index" (sp_need_index K Pt)) (C_spot_row : Ca P w K mg base 3 "spot_row" (sp_spot_row K)) :
    Ca P w K mg base 8 "spot_chances" (sp_chances K Pt) := by
  refine D.cal sc_spot_chances (fun vs H Q E h => ?_) (fun f cdv A outer s H vs Q E hr h => ?_)
  · obtain ⟨n, a, ws, k, rfl, _⟩ := h
    rfl
  · obtain ⟨n, a, ws, k, rfl, ha, hP, R, q⟩ := h
    refine ⟨_, (pss_cons (ps_expr (pe_ca C_need_index hr (by decide) (by rfl) (pa_cons (pv 0) (pa_cons (pv 1) (pa_cons (pv 2) pa_nil)))))
      (pss_one (ps_ret (pe_callTy (Rx.tupK K) (by rfl) T.tuple_ (by decide +kernel) (pa_cons (pe_ca C_spot_row hr (by decide) (by rfl) (pa_cons (pv 0) (pa_cons (pv 1) (pa_cons (pv 2) pa_nil)))) pa_nil))))), ?_⟩
    refine ⟨_, rfl, _, rfl, _, rfl, n, a, ws, k, rfl, R.n2, R.n9, ha, hP, R.len, R.lt, R.k, fun H2 e => ?_⟩
    refine ⟨_, rfl, _, rfl, _, rfl, n, a, ws, k, rfl, e.st (.inl ha), R.n9, by have := R.n2; omega, R.len, R.l4, R.lt, R.k, fun p as H3 hp e3 hp3 hT => ?_⟩
    refine ⟨p, _, rfl, .inl ⟨sl_of hp3, fun r hr' => ?_⟩⟩
    have e4 : Ex H3 (upd H3 r (.tup (as.map V.ref))) := Ex.new hr'
    exact q r as _ ((e.trans e3).free r hr') (e.trans (e3.trans e4)) upd_same (TT_.ex hT e4)
def sp_mean (K : PySem.W.Frag) (Pt : Addr) : Sp := fun vs H Q _ => ∃ (n : Nat) (a : Addr) (ws : List Nat) (k : Nat), vs = [nI n, .ref a, nI k] ∧ Rd H a (.tup (ws.map nI)) ∧ GxR.TabG H Pt ∧ Row4 n ws k ∧
  RetT ((rt (wlks n ws k n).sum (fac ws.length)).map nI) H Q
theorem wlks_sum {n : Nat} {ws : List Nat} {k : Nat} (R : Row4 n ws k) : (wlks n ws k n).sum ≤ 10000 := by
  unfold wlks
  have h := sum_le_len (fun s => dist n (ws.getD k 0) s * (cnts n ws k).getD s 0) (9 * 24) (List.range n) (fun s _ => by
    have h1 : dist n (ws.getD k 0) s < n := Nat.mod_lt _ (by have := R.n2; omega)
    have h2 := le_sum (cnts n ws k) s
    have h3 := cntT_sum (n := n) R.l4 R.k (Nat.le_refl ws.length)
    have h4 := fac24 R.l4
    have h5 : (cnts n ws k).sum ≤ fac ws.length := h3
    have := R.n9
    exact Nat.mul_le_mul (by omega) (by omega))
  rw [List.length_range] at h
  have := R.n9
  have h6 : n * (9 * 24) ≤ 9 * (9 * 24) := Nat.mul_le_mul_right _ this
  omega
theorem c_mean {Pt : Addr} (D : D0 K mg "mean_walk_of" s_mean_walk_of ["size", "wishes", "index"]) (T : Blt mg) (C_need_index : Ca P w K mg base 7 "need_index" (sp_need_index K Pt)) (C_spot_row : Ca P w K mg base 3 "spot_row" (sp_spot_row K))
    (C_sum_of : Ca P w K mg base 3 "sum_of" (sp_sum_of K)) (C_everything : Ca P w K mg base 1 "everything" sp_everything) (C_by : Ca P w K mg base 2 "by" (sp_by K)) :
    Ca P w K mg base 8 "mean_walk_of" (sp_mean K Pt) := by
  refine D.cal sc_mean_walk_of (fun vs H Q E h => ?_) (fun f cdv A outer s H vs Q E hr h => ?_)
  · obtain ⟨n, a, ws, k, rfl, _⟩ := h
    rfl
  · obtain ⟨n, a, ws, k, rfl, ha, hP, R, q⟩ := h
    have n2 := R.n2
    have n9 := R.n9
    have hN0 := fac_pos ws.length
    have hN24 := fac24 R.l4
    refine ⟨_, (pss_cons (ps_expr (pe_ca C_need_index hr (by decide) (by rfl) (pa_cons (pv 0) (pa_cons (pv 1) (pa_cons (pv 2) pa_nil)))))
      (pss_cons (ps_set (i := 3) sc_mean_walk_of.nd rfl (by first | exact Or.inl rfl | exact Or.inr rfl) (pe_ca C_spot_row hr (by decide) (by rfl) (pa_cons (pv 0) (pa_cons (pv 1) (pa_cons (pv 2) pa_nil)))))
      (pss_one (ps_ret (pe_ca C_sum_of hr (by decide) (by rfl) (pa_cons (pe_lc (own := [("place", 4)]) (by rfl) sc_mean_walk_of.nd (Rx.piT K (pe_ca C_everything hr (by decide) (by rfl) (pa_cons (pv 0) pa_nil))) (blkOk_by (own := [("place", 4)]) (by rfl)) (fun _ _ _ _ _ => (pg_name (i := 4) sc_mean_walk_of.nd rfl (by first | exact Or.inl rfl | exact Or.inr rfl))) (fun _ _ _ _ _ => pts_nil) (fun _ _ _ _ _ => (pe_ca C_by hr (by decide) (by rfl) (pa_cons (pe_tup (pa_cons (pe_op op_mod (pe_op op_sub (pv 4) (pe_ix (Rx.ixT K) (pv 1) (pv 2) (fun _ _ => rfl))) (pv 0)) (pa_cons pe_int pa_nil))) (pa_cons (pe_ix (Rx.ixL K) (pv 3) (pv 4) (fun _ _ => rfl)) pa_nil))))) pa_nil)))))), ?_⟩
    refine ⟨_, rfl, _, rfl, _, rfl, n, a, ws, k, rfl, R.n2, R.n9, ha, hP, R.len, R.lt, R.k, fun H2 e => ?_⟩
    refine ⟨_, rfl, _, rfl, _, rfl, n, a, ws, k, rfl, e.st (.inl ha), R.n9, by omega, R.len, R.l4, R.lt, R.k, fun p as H3 hp e3 hp3 hT => ?_⟩
    have e13 := e.trans e3
    have hcl : (cnts n ws k).length = n := cntT_len n ws k ws.length
    have hal : as.length = n := by rw [hT.1, List.length_map, hcl]
    refine go_name ?_
    dsimp only
    refine go_ret (go_cll (go_cons (gL fun Q1 hQ1 => ?_)))
    refine ⟨_, rfl, n, rfl, n9, fun t H4 ht e4 ht4 => ⟨t, rfl, ⟨_, st_of ht4⟩, ?_⟩⟩
    have e14 := e13.trans e4
    refine lc_gen (fun D i acc H' => ∃ bs, acc = bs.map V.ref ∧ TT_ H' bs ((wlks n ws k i).map fun c => rt c (fac ws.length))) (walk_tup (K := K) (a := t) (xs := (List.range n).map nI)) (fun H' e' => st_of (e'.tup ht4)) (by rw [List.length_map, List.length_range]; omega)
      (fun D _ => ⟨[], rfl, TT_.nil⟩) (fun D i acc x H5 H6 hi nD e5 hD hA y Ry Rn k1 _ => ?_) (fun L acc H5 nL e5 hL _ hA => ?_)
    · obtain ⟨rfl, yv⟩ := y
      obtain ⟨bs, rfl, hB⟩ := hA
      have hi' : i < n := by rw [List.length_map, List.length_range] at hi; exact hi
      obtain ⟨v, hv, rfl⟩ := nI_get yv
      obtain rfl : v = i := by
        rw [List.getElem?_range hi'] at hv
        exact (Option.some.inj hv).symm
      have hwk : (ws.map nI)[k]? = some (nI (ws.getD k 0)) := get_nI (get_getD R.k)
      have hwkn : ws.getD k 0 < n := R.lt _ (List.mem_of_getElem? (get_getD R.k))
      obtain ⟨c0, hc0⟩ : ∃ c0, as[v]? = some c0 := ⟨_, List.getElem?_eq_getElem (by omega)⟩
      have hc1 : ((cnts n ws k).map fun c => rt c (fac ws.length))[v]? = some (rt ((cnts n ws k).getD v 0) (fac ws.length)) := by
        rw [List.getElem?_map, get_getD (by omega)]
        rfl
      have hctup := hT.2 v c0 _ hc0 hc1
      have hcb : (cnts n ws k).getD v 0 ≤ 24 := by
        have h2 := le_sum (cnts n ws k) v
        have h3 := cntT_sum (n := n) R.l4 R.k (Nat.le_refl ws.length)
        have h5 : (cnts n ws k).sum ≤ fac ws.length := h3
        omega
      have e15 := e14.trans e5
      refine ⟨rfl, goYes ?_⟩
      refine ⟨_, rfl, _, rfl, _, rfl, a, _, k, nI (ws.getD k 0), rfl, rfl, e15.st (.inl ha), atI_nat hwk, _, _, rfl, rfl, _, rfl, _, _, rfl, rfl, by omega, by show 2 ≤ sizeLine; decide, fun u hu => ?_⟩
      dsimp only
      rw [nI_sub hwkn]
      have eu : Ex H6 (upd H6 u (.tup [nI (dist n (ws.getD k 0) v), .int 1])) := Ex.new hu
      have e45 := e4.trans (e5.trans eu)
      refine ⟨_, rfl, _, rfl, p, _, v, .ref c0, rfl, rfl, sl_of (e45.lst hp3), atI_nat (by rw [List.getElem?_map, hc0]; rfl), ?_⟩
      have hdn : dist n (ws.getD k 0) v < n := Nat.mod_lt _ (by omega)
      refine ⟨u, c0, dist n (ws.getD k 0) v, 1, tp ((cnts n ws k).getD v 0) (fac ws.length), bt ((cnts n ws k).getD v 0) (fac ws.length), rfl, st_of upd_same, st_of (e45.tup hctup), by omega, ?_, by decide, bt_pos hN0, by decide, ?_, fun r H7 hr7 e7 hr77 => ?_⟩
      · have := tp_le ((cnts n ws k).getD v 0) (fac ws.length); omega
      · have := bt_le ((cnts n ws k).getD v 0) (fac ws.length); omega
      · rw [rt_by hN0] at hr77
        have eu7 := eu.trans e7
        refine k1 _ _ eu7 ⟨bs ++ [r], by rw [List.map_append]; rfl, ?_⟩
        rw [wlks_succ, List.map_append]
        have nrD : r ≠ D := fun z => by rw [z, eu7.lst hD] at hr77; cases hr77
        refine (TT_.wr (TT_.ex hB eu7) (eu7.lst hD)).snoc (xs := rt (dist n (ws.getD k 0) v * (cnts n ws k).getD v 0) (fac ws.length)) ?_
        rw [upd_ne nrD]
        exact hr77
    · obtain ⟨bs, rfl, hB⟩ := hA
      rw [List.length_map, List.length_range] at hB
      have e15 := e14.trans e5
      refine hQ1 _ _ ?_
      have hs := wlks_sum R
      exact ⟨L, bs, wlks n ws k n, fac ws.length, rfl, sl_of hL, hB, hN0, by omega, by omega, fun r H6 hr6 e6 h6 => q r H6 (e15.free r hr6) (e15.trans e6) h6⟩
end
end Px
namespace Px
open PySem L2 PyProof.Rows Kx Tx Ma
theorem go_cty {r : List V → Hp → VK → Prop} {t : TA} {σ : L2.St} {H : Hp} {Q : VK} (h : t σ H fun vs H1 => r vs H1 Q) : tCB r t σ H Q := h
section
variable {P : Program} {w : World} {K : PySem.W.Frag} {mg : Str → Option Value} {base : Heap}
/-- the law's own script, not the row -/
def SrcAt (K : PySem.W.Frag) (S : Addr × List Int) (r : Addr) (H : Hp) : Prop := (Rd H S.1 (.lst (S.2.map V.int)) ∧ S.1 ≠ r) ∨ ∀ H', SqL K H' S.1 (S.2.map V.int)
theorem SrcAt.sq {S : Addr × List Int} {r : Addr} {H : Hp} (h : SrcAt K S r H) : SqL K H S.1 (S.2.map V.int) := h.elim (fun q => .inl q.1) (fun q => q H)
theorem SrcAt.ex {S : Addr × List Int} {r : Addr} {H H' : Hp} (h : SrcAt K S r H) (e : Ex H H') : SrcAt K S r H' := h.elim (fun q => .inl ⟨e.rdL q.1, q.2⟩) .inr
/-- the row that draws are taken from -/
def RowAt (K : PySem.W.Frag) (S : Addr × List Int) (H : Hp) (r : Addr) : Prop := ∃ (i j c : Int), H r = some (.lst [.ref S.1, .int i, .int j, .int c]) ∧ 0 ≤ i ∧ SrcAt K S r H
theorem rd_upd {H : Hp} {a r : Addr} {o u : HO} (h : Rd H a o) (n : a ≠ r) : Rd (upd H r u) a o := by
  rcases h with h | ⟨ob, h⟩
  · exact .inl (by rw [upd_ne n]; exact h)
  · exact .inr ⟨ob, by rw [upd_ne n]; exact h⟩
theorem sl_upd {H : Hp} {a r : Addr} {xs : List V} {u : HO} (h : SqL K H a xs) (n : a ≠ r) : SqL K (upd H r u) a xs := h.elim (fun q => .inl (rd_upd q n)) .inr
theorem SrcAt.upd {S : Addr × List Int} {r : Addr} {H : Hp} {u : HO} (h : SrcAt K S r H) : SrcAt K S r (upd H r u) := h.elim (fun q => .inl ⟨rd_upd q.1 q.2, q.2⟩) .inr
/-- another list in the row's place -/
def NewRow (K : PySem.W.Frag) (S : Addr × List Int) (H : Hp) (r : Addr) (H2 : Hp) : Prop := RowAt K S H2 r ∧ ∃ ys, H2 = upd H r (.lst ys)
def sp_taken (K : PySem.W.Frag) : Sp := fun vs H Q _ => ∃ (S : Addr × List Int) (r : Addr) (m : Nat), vs = [.ref r, nI m] ∧ 0 < m ∧ m ≤ 100 ∧ RowAt K S H r ∧ ∀ v H2, v < m → NewRow K S H r H2 → Q (nI v) H2
theorem nat_mod (c : Int) {m : Nat} (h : 0 < m) : ∃ v : Nat, v < m ∧ V.int (c % (m : Int)) = nI v := by
  have h1 := Int.emod_nonneg c (show (m : Int) ≠ 0 by omega)
  have h2 := Int.emod_lt_of_pos c (show (0 : Int) < m by omega)
  refine ⟨(c % (m : Int)).toNat, by omega, ?_⟩
  unfold nI
  rw [show (((c % (m : Int)).toNat : Nat) : Int) = c % m by omega]
theorem c_taken (D : D0 K mg "_law_taken" s_law_taken ["_law_row", "_law_many"]) (T : Blt mg) : Ca P w K mg base 1 "_law_taken" (sp_taken K) := by
  refine D.cal sc_law_taken (fun vs H Q E h => ?_) (fun f cdv A outer s H vs Q E hr h => ?_)
  · obtain ⟨S, r, m, rfl, _⟩ := h
    rfl
  · obtain ⟨⟨sc, xs⟩, r, m, rfl, hm, hm2, ⟨i, j, c, hr0, hi, hs⟩, q⟩ := h
    dsimp only at hr0
    refine ⟨_, (pss_cons (ps_if (pt_cmpR op_gt (pe_ix (Rx.ixL K) (pv 0) pe_int (fun _ _ => rfl)) pe_int (nomark _))
        (pss_cons (ps_set (i := 2) sc_law_taken.nd rfl (by first | exact Or.inl rfl | exact Or.inr rfl) (pe_op op_mod (pe_callTy call_int1 (by rfl) T.int_ (by decide +kernel) (pa_cons (pe_ix (Rx.ixL K) (pv 0) pe_int (fun _ _ => rfl)) pa_nil)) (pv 1)))
        (pss_cons (ps_asg (pe_op op_fdivN (pe_ix (Rx.ixL K) (pv 0) pe_int (fun _ _ => rfl)) (pv 1)) (pg_sub (pv 0) pe_int set_list))
        (pss_one (ps_ret (pv 2))))) pss_nil)
      (pss_cons (ps_asg (pe_op op_add (pe_ix (Rx.ixL K) (pv 0) pe_int (fun _ _ => rfl)) pe_int) (pg_sub (pv 0) pe_int set_list))
      (pss_cons (ps_if (pt_cmpR op_gt (pe_ix (Rx.ixL K) (pv 0) pe_int (fun _ _ => rfl)) (pe_callB (Rx.lenK K) (by rfl) T.len_ (by decide +kernel) (pa_cons (pe_ix (Rx.ixL K) (pv 0) pe_int (fun _ _ => rfl)) pa_nil)) (nomark _))
        (pss_cons (ps_asg (pe_op op_mod (pe_callTy call_int1 (by rfl) T.int_ (by decide +kernel) (pa_cons (pe_op op_add (pe_op op_mul (pe_ix (Rx.ixL K) (pv 0) pe_int (fun _ _ => rfl)) pe_int) pe_int) pa_nil)) pe_int) (pg_sub (pv 0) pe_int set_list))
        (pss_one (ps_ret (pe_op op_mod (pe_callTy call_int1 (by rfl) T.int_ (by decide +kernel) (pa_cons (pe_op op_fdivN (pe_ix (Rx.ixL K) (pv 0) pe_int (fun _ _ => rfl)) pe_int) pa_nil)) (pv 1))))) pss_nil)
      (pss_cons (ps_set (i := 3) sc_law_taken.nd rfl (by first | exact Or.inl rfl | exact Or.inr rfl) (pe_ix (Rx.ixL K) (pe_ix (Rx.ixL K) (pv 0) pe_int (fun _ _ => rfl)) (pe_op op_sub (pe_ix (Rx.ixL K) (pv 0) pe_int (fun _ _ => rfl)) pe_int) (fun _ _ => rfl)))
      (pss_cons (ps_asg (pe_op op_mod (pe_callTy call_int1 (by rfl) T.int_ (by decide +kernel) (pa_cons (pe_op op_add (pe_op op_add (pe_op op_mul (pe_ix (Rx.ixL K) (pv 0) pe_int (fun _ _ => rfl)) pe_int) (pv 3)) pe_int) pa_nil)) pe_int) (pg_sub (pv 0) pe_int set_list))
      (pss_cons (ps_if (pt_cmpR op_ge (pv 3) (pe_op op_pow pe_int pe_int) (nomark _))
        (pss_one (ps_asg (pe_op op_fdivN (pv 3) (pv 1)) (pg_sub (pv 0) pe_int set_list))) pss_nil)
      (pss_one (ps_ret (pe_op op_mod (pe_callTy call_int1 (by rfl) T.int_ (by decide +kernel) (pa_cons (pv 3) pa_nil)) (pv 1)))))))))), ?_⟩
    refine ⟨_, rfl, r, _, (3 : Nat), .int c, rfl, rfl, sl_of hr0, rfl, _, _, rfl, rfl, _, rfl, ?_⟩
    refine ite2 (fun hc => ?_) (fun hc => ?_)
    · refine ⟨_, rfl, r, _, (3 : Nat), .int c, rfl, rfl, sl_of hr0, rfl, .inl ⟨c, rfl, _, rfl, _, _, rfl, rfl, by omega, ?_⟩⟩
      refine ⟨_, rfl, r, _, (3 : Nat), .int c, rfl, rfl, sl_of hr0, rfl, _, rfl, _, _, rfl, rfl, ⟨by omega, by rw [Int.natAbs_natCast]; omega⟩, ?_⟩
      refine ⟨_, rfl, r, _, (3 : Nat), 3, rfl, rfl, hr0, rfl, ?_⟩
      obtain ⟨v, hv, e⟩ := nat_mod c hm
      refine ⟨_, congrArg some (congrArg some e), ?_⟩
      exact q v _ hv ⟨⟨i, j, _, upd_same, hi, hs.upd⟩, _, rfl⟩
    · refine ⟨_, rfl, r, _, (1 : Nat), .int i, rfl, rfl, sl_of hr0, rfl, _, _, rfl, rfl, _, rfl, r, _, (1 : Nat), 1, rfl, rfl, hr0, rfl, ?_⟩
      have hr1 : upd H r (.lst ([.ref sc, .int i, .int j, .int c].set 1 (.int (i + 1)))) r = some (.lst [.ref sc, .int (i + 1), .int j, .int c]) := upd_same
      have hs1 : SrcAt K (sc, xs) r (upd H r (.lst ([.ref sc, .int i, .int j, .int c].set 1 (.int (i + 1))))) := hs.upd
      have hw1 : ∀ u, upd (upd H r (.lst ([.ref sc, .int i, .int j, .int c].set 1 (.int (i + 1))))) r u = upd H r u := fun u => by
        funext b
        by_cases hb : b = r
        · rw [hb, upd_same, upd_same]
        · rw [upd_ne hb, upd_ne hb, upd_ne hb]
      have hw0 : (upd H r (.lst ([.ref sc, .int i, .int j, .int c].set 1 (.int (i + 1))))) = upd H r (.lst [.ref sc, .int (i + 1), .int j, .int c]) := rfl
      dsimp only
      generalize upd H r (.lst ([.ref sc, .int i, .int j, .int c].set 1 (.int (i + 1)))) = H1 at hr1 hs1 hw1 hw0
      refine ⟨_, rfl, r, _, (1 : Nat), .int (i + 1), rfl, rfl, sl_of hr1, rfl, _, rfl, r, _, (0 : Nat), .ref sc, rfl, rfl, sl_of hr1, rfl, sc, _, rfl, .inl hs1.sq, _, _, rfl, rfl, _, rfl, ?_⟩
      refine ite2 (fun hl => ?_) (fun hl => ?_)
      · refine ⟨_, rfl, r, _, (2 : Nat), .int j, rfl, rfl, sl_of hr1, rfl, _, _, rfl, rfl, .inr ⟨by decide, by decide⟩, _, _, rfl, rfl, .inl ⟨_, rfl, _, _, rfl, rfl, (show (0 : Int) < 2147483647 by decide), _, rfl, r, _, (2 : Nat), 2, rfl, rfl, hr1, rfl, ?_⟩⟩
        have hr2 : upd H1 r (.lst ([.ref sc, .int (i + 1), .int j, .int c].set 2 (.int ((j * 48271 + 11) % 2147483647)))) r = some (.lst [.ref sc, .int (i + 1), .int ((j * 48271 + 11) % 2147483647), .int c]) := upd_same
        dsimp only
        refine ⟨_, rfl, r, _, (2 : Nat), _, rfl, rfl, sl_of hr2, rfl, _, _, rfl, rfl, ⟨by decide, by decide⟩, .inl ⟨_, rfl, _, rfl, _, _, rfl, rfl, by omega, ?_⟩⟩
        obtain ⟨v, hv, e⟩ := nat_mod (((j * 48271 + 11) % 2147483647).fdiv 7) hm
        have hq := q v _ hv ⟨⟨i + 1, _, c, hr2, by omega, hs1.upd⟩, _, hw1 _⟩
        rw [← e] at hq
        exact hq
      · have hi1 : i.toNat < xs.length := by
          rw [List.length_map] at hl
          have : ¬ ((xs.length : Nat) : Int) < i + 1 := fun z => hl (decide_eq_true z)
          omega
        have hx : (xs.map V.int)[i.toNat]? = some (.int xs[i.toNat]) := by rw [List.getElem?_map, List.getElem?_eq_getElem hi1]; rfl
        generalize xs[i.toNat] = x at hx
        refine ⟨_, rfl, r, _, (0 : Nat), .ref sc, rfl, rfl, sl_of hr1, rfl, _, rfl, r, _, (1 : Nat), .int (i + 1), rfl, rfl, sl_of hr1, rfl, _, _, rfl, rfl, sc, _, _, .int x, rfl, rfl, hs1.sq, at_of (j := i.toNat) (by omega) hx, ?_⟩
        refine go_name ?_
        dsimp only
        refine ⟨_, rfl, r, _, (2 : Nat), .int j, rfl, rfl, sl_of hr1, rfl, _, _, rfl, rfl, .inr ⟨by decide, by decide⟩, _, rfl, _, _, rfl, rfl, _, _, rfl, rfl, .inl ⟨_, rfl, _, _, rfl, rfl, (show (0 : Int) < 2147483647 by decide), _, rfl, r, _, (2 : Nat), 2, rfl, rfl, hr1, rfl, ?_⟩⟩
        have hr2 : upd H1 r (.lst ([.ref sc, .int (i + 1), .int j, .int c].set 2 (.int ((j * 48271 + x + 11) % 2147483647)))) r = some (.lst [.ref sc, .int (i + 1), .int ((j * 48271 + x + 11) % 2147483647), .int c]) := upd_same
        have hs2 : SrcAt K (sc, xs) r (upd H1 r (.lst ([.ref sc, .int (i + 1), .int j, .int c].set 2 (.int ((j * 48271 + x + 11) % 2147483647))))) := hs1.upd
        have hw2 : ∀ u, upd (upd H1 r (.lst ([.ref sc, .int (i + 1), .int j, .int c].set 2 (.int ((j * 48271 + x + 11) % 2147483647))))) r u = upd H r u := fun u => by
          rw [← hw1 u]
          funext b
          by_cases hb : b = r
          · rw [hb, upd_same, upd_same]
          · rw [upd_ne hb, upd_ne hb, upd_ne hb]
        have hw3 : upd H1 r (.lst ([.ref sc, .int (i + 1), .int j, .int c].set 2 (.int ((j * 48271 + x + 11) % 2147483647)))) = upd H r (.lst [.ref sc, .int (i + 1), .int ((j * 48271 + x + 11) % 2147483647), .int c]) := hw1 _
        obtain ⟨v, hv, e⟩ := nat_mod x hm
        dsimp only
        generalize upd H1 r (.lst ([.ref sc, .int (i + 1), .int j, .int c].set 2 (.int ((j * 48271 + x + 11) % 2147483647)))) = H2 at hr2 hs2 hw2 hw3
        generalize (j * 48271 + x + 11) % 2147483647 = j2 at hr2 hw3
        refine ⟨_, rfl, _, _, rfl, rfl, ⟨by decide, by decide, by decide⟩, _, _, rfl, rfl, _, rfl, ?_⟩
        refine ite2 (fun hb => ?_) (fun hb => ?_)
        · refine ⟨_, rfl, _, rfl, _, _, rfl, rfl, ⟨by omega, by rw [Int.natAbs_natCast]; omega⟩, _, rfl, r, _, (3 : Nat), 3, rfl, rfl, hr2, rfl, ?_⟩
          refine ⟨_, rfl, .inl ⟨_, rfl, _, rfl, _, _, rfl, rfl, by omega, ?_⟩⟩
          have hq := q v _ hv ⟨⟨i + 1, j2, x.fdiv (m : Int), upd_same, by omega, hs2.upd⟩, _, hw2 _⟩
          rw [← e] at hq
          exact hq
        · refine ⟨_, rfl, .inl ⟨_, rfl, _, rfl, _, _, rfl, rfl, by omega, ?_⟩⟩
          have hq := q v H2 hv ⟨⟨i + 1, j2, c, hr2, by omega, hs2⟩, _, hw3⟩
          rw [← e] at hq
          exact hq
/-- the heap without the row -/
def drop (H : Hp) (r : Addr) : Hp := fun b => if b = r then none else H b
theorem drop_ne {H : Hp} {r b : Addr} (h : b ≠ r) : drop H r b = H b := if_neg h
theorem drop_self {H : Hp} {r : Addr} : drop H r r = none := if_pos rfl
theorem drop_le {B H : Hp} {r : Addr} (h : B r = none) (e : Ex B H) : Ex B (drop H r) := by
  have ne : ∀ a o, B a = some o → a ≠ r := fun a o q z => by rw [z, h] at q; cases q
  refine ⟨fun a o n q => by rw [drop_ne (ne a o q)]; exact e.keep a o n q, fun P t => ?_, fun a q => ?_⟩
  · obtain ⟨ps, e1, _⟩ := id t
    obtain ⟨qs, e2, t2⟩ := e.tab P t
    exact ⟨qs, by rw [drop_ne (ne P _ e1)]; exact e2, t2⟩
  · by_cases ha : a = r
    · rw [ha]; exact h
    · rw [drop_ne ha] at q
      exact e.free a q
theorem drop_ex (H : Hp) (r : Addr) : Ex (drop H r) H := by
  refine ⟨fun a o n q => ?_, fun P t => ?_, fun a q => ?_⟩
  · by_cases ha : a = r
    · rw [ha, drop_self] at q; cases q
    · rw [drop_ne ha] at q; exact q
  · obtain ⟨ps, e1, t1⟩ := t
    by_cases ha : P = r
    · rw [ha, drop_self] at e1; cases e1
    · rw [drop_ne ha] at e1; exact ⟨ps, e1, t1⟩
  · by_cases ha : a = r
    · rw [ha]; exact drop_self
    · rw [drop_ne ha]; exact q
def RX (K : PySem.W.Frag) (S : Addr × List Int) (r : Addr) (H H' : Hp) : Prop := RowAt K S H' r ∧ Ex (drop H r) H'
theorem RowAt.ex {S : Addr × List Int} {H H' : Hp} {r : Addr} (h : RowAt K S H r) (e : Ex H H') : RowAt K S H' r := by
  obtain ⟨i, j, c, h1, h2, h3⟩ := h
  exact ⟨i, j, c, e.lst h1, h2, h3.ex e⟩
theorem RX.of_ex {S : Addr × List Int} {H H' : Hp} {r : Addr} (h : RowAt K S H r) (e : Ex H H') : RX K S r H H' := ⟨h.ex e, (drop_ex H r).trans e⟩
theorem RX.refl {S : Addr × List Int} {H : Hp} {r : Addr} (h : RowAt K S H r) : RX K S r H H := ⟨h, drop_ex H r⟩
theorem RX.of_new {S : Addr × List Int} {H H' : Hp} {r : Addr} (h : NewRow K S H r H') : RX K S r H H' := by
  obtain ⟨h1, ys, rfl⟩ := h
  exact ⟨h1, (drop_ex H r).mut drop_self⟩
theorem RX.trans {S : Addr × List Int} {H H1 H2 : Hp} {r : Addr} (a : RX K S r H H1) (b : RX K S r H1 H2) : RX K S r H H2 := ⟨b.1, (drop_le drop_self a.2).trans b.2⟩
theorem RX.ex {S : Addr × List Int} {B H H1 : Hp} {r : Addr} (a : RX K S r H H1) (h : B r = none) (e : Ex B H) : Ex B H1 := (drop_le h e).trans a.2
theorem RX.lst {S : Addr × List Int} {H H1 : Hp} {r l : Addr} {xs : List V} (a : RX K S r H H1) (h : H l = some (.lst xs)) (n : l ≠ r) : H1 l = some (.lst xs) := a.2.lst (by rw [drop_ne n]; exact h)
theorem RX.tup {S : Addr × List Int} {H H1 : Hp} {r l : Addr} {xs : List V} (a : RX K S r H H1) (h : H l = some (.tup xs)) (n : l ≠ r) : H1 l = some (.tup xs) := a.2.tup (by rw [drop_ne n]; exact h)
theorem RX.free {S : Addr × List Int} {H H1 : Hp} {r l : Addr} (a : RX K S r H H1) (h : H1 l = none) (n : l ≠ r) : H l = none := by
  have := a.2.free l h
  rw [drop_ne n] at this
  exact this
theorem RowAt.ne {S : Addr × List Int} {H : Hp} {r b : Addr} (h : RowAt K S H r) (hb : H b = none) : b ≠ r := by
  obtain ⟨i, j, c, h1, _⟩ := h
  exact fun z => by rw [z, h1] at hb; cases hb
theorem RowAt.neT {S : Addr × List Int} {H : Hp} {r b : Addr} {xs : List V} (h : RowAt K S H r) (hb : H b = some (.tup xs)) : b ≠ r := by
  obtain ⟨i, j, c, h1, _⟩ := h
  exact fun z => by rw [z, h1] at hb; cases hb
def sp_pick (K : PySem.W.Frag) : Sp := fun vs H Q _ => ∃ (S : Addr × List Int) (r l : Addr) (xs : List Nat), vs = [.ref r, .ref l] ∧ H l = some (.lst (xs.map nI)) ∧ 0 < xs.length ∧ xs.length ≤ 100 ∧ l ≠ r ∧ RowAt K S H r ∧ ∀ x H2, x ∈ xs → RX K S r H H2 → Q (nI x) H2
theorem c_pick (D : D0 K mg "_law_pick" s_law_pick ["_law_row", "_law_things"]) (T : Blt mg) (C_law_taken : Ca P w K mg base 1 "_law_taken" (sp_taken K)) : Ca P w K mg base 2 "_law_pick" (sp_pick K) := by
  refine D.cal sc_law_pick (fun vs H Q E h => ?_) (fun f cdv A outer s H vs Q E hr h => ?_)
  · obtain ⟨S, r, l, xs, rfl, _⟩ := h
    rfl
  · obtain ⟨S, r, l, xs, rfl, hl, h0, h100, hne, hR, q⟩ := h
    refine ⟨_, (pss_one (ps_ret (pe_ix (Rx.ixL K) (pv 1) (pe_ca C_law_taken hr (by decide) (by rfl) (pa_cons (pv 0) (pa_cons (pe_callB (Rx.lenK K) (by rfl) T.len_ (by decide +kernel) (pa_cons (pv 1) pa_nil)) pa_nil))) (fun _ _ => rfl)))), ?_⟩
    refine ⟨_, rfl, _, rfl, _, rfl, l, _, rfl, .inl (sl_of hl), S, r, (xs.map nI).length, rfl, by rw [List.length_map]; exact h0, by rw [List.length_map]; exact h100, hR, fun v H2 hv nr => ?_⟩
    have hx := RX.of_new nr
    rw [List.length_map] at hv
    exact ⟨l, _, v, nI xs[v], rfl, rfl, sl_of (hx.lst hl hne), atI_nat (get_nI (List.getElem?_eq_getElem hv)), q _ _ (List.getElem_mem hv) hx⟩
theorem lc_row {J : It} {n : Nat} {G : Hp → Prop} {Y : Nat → Hp → V → Hp → Prop} {Yv : Nat → V → Prop} {g : TG} {tt : TT} {te : TE} {vs : List Nat} {σ : L2.St} {H1 : Hp} {Q : VK} {S : Addr × List Int} {r : Addr} (p : Nat → Prop) (w : Walk J n G Y) (hy : ∀ i H x H', Y i H x H' → H' = H ∧ Yv i x)
    (hG : ∀ H', RX K S r H1 H' → G H') (hn : n ≤ 900000) (hR : RowAt K S H1 r)
    (turn : ∀ i x H, i < n → Yv i x → RX K S r H1 H → ∀ Ry : VK, (∀ v H4, p v → RX K S r H H4 → Ry (nI v) H4) → ∀ Rn : Hp → Prop, g x (wipe σ vs) H fun σ2 H2 => wipe σ2 vs = wipe σ vs ∧ tt σ2 H2 fun c H3 => if c = true then te σ2 H3 Ry else Rn H3)
    (hd : ∀ D H' (us : List Nat), H1 D = none → RX K S r H1 H' → H' D = some (.lst (us.map nI)) → us.length = n → (∀ v ∈ us, p v) → Q (.ref D) H') :
    ∀ D, H1 D = none → ∃ W : Nat → Nat → Hp → Prop, (∃ m, W 0 m (upd H1 D (.lst []))) ∧ ∀ i m H, W i m H →
      (J.stop i H ∧ Q (.ref D) H) ∨ (J.go i H ∧ ∃ Nx : Hp → Prop, (∀ H', Nx H' → ∃ m', m' < m ∧ W (i + 1) m' H') ∧ ∀ x H', J.yld i H x H' → g x (wipe σ vs) H' fun σ2 H2 => wipe σ2 vs = wipe σ vs ∧ tt σ2 H2 fun b H3 =>
        if b = true then te σ2 H3 fun y H4 => ∃ acc, H4 D = some (.lst acc) ∧ acc.length < sizeLine ∧ Nx (upd H4 D (.lst (acc ++ [y]))) else Nx H3) := by
  intro D nD
  have nDr : D ≠ r := hR.ne nD
  refine lc_it w (fun i H => RX K S r H1 H ∧ ∃ us : List Nat, H D = some (.lst (us.map nI)) ∧ us.length = i ∧ ∀ v ∈ us, p v) ⟨RX.of_ex hR (Ex.new nD), [], upd_same, rfl, fun v h => by simp at h⟩ (fun i H _ q => hG H q.1) (fun i x H H' hi q y => ?_) (fun H q => ?_)
  · obtain ⟨hx, us, hD, hl, hp⟩ := q
    obtain ⟨rfl, yv⟩ := hy _ _ _ _ y
    refine turn i x H' hi yv hx _ (fun v H4 hv h4 => ?_) _
    have hD4 := h4.lst hD nDr
    refine ⟨_, hD4, sz_lt (by rw [List.length_map]; omega), ?_, us ++ [v], by rw [upd_same, List.map_append]; rfl, by rw [List.length_append, List.length_singleton, hl], fun z hz => ?_⟩
    · have h14 := hx.trans h4
      refine ⟨?_, h14.2.mut (by rw [drop_ne nDr]; exact nD)⟩
      obtain ⟨i2, j2, c2, h1, h2, h5⟩ := h14.1
      refine ⟨i2, j2, c2, by rw [upd_ne nDr.symm]; exact h1, h2, ?_⟩
      obtain ⟨_, _, _, _, _, g5⟩ := hR
      rcases g5 with ⟨g5, g6⟩ | g5
      · have hn : S.1 ≠ D := fun z => by
          rcases g5 with g5 | ⟨o5, g5⟩
          · rw [z, nD] at g5; cases g5
          · rw [z, nD] at g5; cases g5
        rcases h5 with ⟨h5, h6⟩ | h5
        · exact .inl ⟨rd_upd h5 hn, h6⟩
        · exact .inr h5
      · exact .inr g5
    · rcases List.mem_append.mp hz with hz | hz
      · exact hp z hz
      · rw [List.mem_singleton] at hz; rw [hz]; exact hv
  · obtain ⟨hx, us, hD, hl, hp⟩ := q
    exact hd D H us nD hx hD hl hp
end
end Px
namespace Px
open PySem L2 PyProof.Rows Kx Tx Ma
section
variable {P : Program} {w : World} {K : PySem.W.Frag} {mg : Str → Option Value} {base : Heap}
def sp_wishes (K : PySem.W.Frag) : Sp := fun vs H Q _ => ∃ (S : Addr × List Int) (r : Addr) (n : Nat), vs = [.ref r, nI n] ∧ 2 ≤ n ∧ n ≤ 9 ∧ RowAt K S H r ∧
  ∀ p H2 (ws : List Nat), H p = none → RX K S r H H2 → H2 p = some (.tup (ws.map nI)) → ws.length ≤ n → (∀ x ∈ ws, x < n) → Q (.ref p) H2
theorem c_wishes (D : D0 K mg "_law_wishes" s_law_wishes ["_law_row", "_law_size"]) (T : Blt mg) (C_law_taken : Ca P w K mg base 1 "_law_taken" (sp_taken K)) (C_law_pick : Ca P w K mg base 2 "_law_pick" (sp_pick K)) : Ca P w K mg base 3 "_law_wishes" (sp_wishes K) := by
  refine D.cal sc_law_wishes (fun vs H Q E h => ?_) (fun f cdv A outer s H vs Q E hr h => ?_)
  · obtain ⟨S, r, n, rfl, _⟩ := h
    rfl
  · obtain ⟨S, r, n, rfl, n2, n9, hR, q⟩ := h
    refine ⟨_, (pss_cons (ps_asg (pe_tup (pa_cons (pe_ca C_law_taken hr (by decide) (by rfl) (pa_cons (pv 0) (pa_cons (pv 1) pa_nil))) (pa_cons (pe_ca C_law_taken hr (by decide) (by rfl) (pa_cons (pv 0) (pa_cons (pe_op op_add (pv 1) pe_int) pa_nil))) pa_nil))) (Rx.pgT (n := 2) K rfl (pgs_cons (pg_name (i := 2) sc_law_wishes.nd rfl (by first | exact Or.inl rfl | exact Or.inr rfl)) (pgs_cons (pg_name (i := 3) sc_law_wishes.nd rfl (by first | exact Or.inl rfl | exact Or.inr rfl)) pgs_nil))))
      (pss_one (ps_ret (pe_callTy (Rx.tupK K) (by rfl) T.tuple_ (by decide +kernel) (pa_cons (pe_lc (own := [("_law_k", 4)]) (by rfl) sc_law_wishes.nd (pi_range1 (by rfl) T.range_ (pa_cons (pv 3) pa_nil)) (blkOk_by (own := [("_law_k", 4)]) (by rfl)) (fun _ _ _ _ _ => (pg_name (i := 4) sc_law_wishes.nd rfl (by first | exact Or.inl rfl | exact Or.inr rfl))) (fun _ _ _ _ _ => pts_nil) (fun _ _ _ _ _ => (pe_ca C_law_pick hr (by decide) (by rfl) (pa_cons (pv 0) (pa_cons (pe_lst (pa_cons (pv 2) (pa_cons (pe_ca C_law_taken hr (by decide) (by rfl) (pa_cons (pv 0) (pa_cons (pv 1) pa_nil))) (pa_cons (pe_op op_mod (pe_op op_add (pv 2) (pe_ca C_law_taken hr (by decide) (by rfl) (pa_cons (pv 0) (pa_cons pe_int pa_nil)))) (pv 1)) pa_nil)))) pa_nil))))) pa_nil))))), ?_⟩
    refine ⟨_, rfl, _, rfl, S, r, n, rfl, by omega, by omega, hR, fun near H1 hnear nr1 => ?_⟩
    have x1 := RX.of_new nr1
    refine ⟨_, rfl, _, rfl, _, _, rfl, rfl, S, r, n + 1, rfl, by omega, by omega, nr1.1, fun many H2 hmany nr2 => ?_⟩
    have x2 := x1.trans (RX.of_new nr2)
    refine ⟨by show 2 ≤ sizeLine; decide, fun t ht => ⟨t, _, rfl, st_of upd_same, rfl, nI near, _, rfl, nI many, _, rfl, rfl, ?_⟩⟩
    have x3 := x2.trans (RX.of_ex x2.1 (Ex.new (o := .tup [nI near, nI many]) ht))
    generalize upd H2 t (.tup [nI near, nI many]) = H3 at x3
    dsimp only
    refine go_ret (go_cty (go_cons (gL fun Q1 hQ1 => ?_)))
    refine ⟨_, rfl, (many : Int), rfl, by omega, by omega, ?_⟩
    have em : (many : Int).toNat = many := by omega
    rw [em]
    refine lc_row (S := S) (r := r) (fun x => x < n) (walk_range (lo := 0) (n := many)) (Yv := fun _ _ => True) (fun i H x H' y => ⟨y.1, True.intro⟩) (fun _ _ => True.intro) (by omega) x3.1 (fun i x H5 hi _ x5 Ry kR Rn => ?_) (fun L H5 us nL x5 hL hl hp => ?_)
    · refine ⟨rfl, goYes ?_⟩
      refine ⟨_, rfl, _, rfl, _, rfl, _, rfl, S, r, n, rfl, by omega, by omega, x5.1, fun v1 H6 hv1 nr6 => ?_⟩
      have x6 := RX.of_new nr6
      refine ⟨_, rfl, _, rfl, S, r, 3, rfl, by decide, by decide, nr6.1, fun v2 H7 hv2 nr7 => ?_⟩
      have x7 := x6.trans (RX.of_new nr7)
      refine ⟨_, _, rfl, rfl, _, rfl, _, _, rfl, rfl, by omega, by show 3 ≤ sizeLine; decide, fun l hl => ?_⟩
      have e8 : Ex H7 (upd H7 l (.lst [nI near, nI v1, V.int (((near : Int) + (v2 : Int)) % (n : Int))])) := Ex.new hl
      have x8 := x7.trans (RX.of_ex x7.1 e8)
      refine ⟨S, r, l, [near, v1, (near + v2) % n], rfl, ?_, by simp, by simp, x7.1.ne hl, x8.1, fun x H9 hx x9 => ?_⟩
      · rw [upd_same]
        dsimp only
        rw [nI_add]
        rfl
      · refine kR x H9 ?_ (x8.trans x9)
        simp only [List.mem_cons, List.mem_nil_iff, or_false] at hx
        rcases hx with rfl | rfl | rfl
        · exact hnear
        · exact hv1
        · exact Nat.mod_lt _ (by omega)
    · refine hQ1 _ _ ?_
      refine ⟨L, _, rfl, .inl ⟨sl_of hL, fun p hp' => ?_⟩⟩
      have x6 := x3.trans x5
      have x7 := x6.trans (RX.of_ex x6.1 (Ex.new (o := .tup (us.map nI)) hp'))
      exact q p _ us (x6.free hp' (x6.1.ne hp')) x7 upd_same (by omega) hp
theorem ps_law_ratio : True := True.intro
def sp_lratio : Sp := fun vs H Q _ => ∃ a b : Nat, vs = [nI a, nI b] ∧ 0 < b ∧ b < 1000000000 ∧ RetT ((rt a b).map nI) H Q
theorem c_lratio (D : D0 K mg "_law_ratio" s_law_ratio ["_law_top", "_law_bottom"]) (T : Blt mg) : Ca P w K mg base 1 "_law_ratio" sp_lratio := by
  refine D.cal sc_law_ratio (fun vs H Q E h => ?_) (fun f cdv A outer s H vs Q E hr h => ?_)
  · obtain ⟨a, b, rfl, _⟩ := h
    rfl
  · obtain ⟨a, b, rfl, hb, hb2, q⟩ := h
    refine ⟨_, (pss_cons (ps_par (i := 2) (j := 3) (by rfl) sc_law_ratio.nd rfl rfl (by decide) rfl rfl (pa_cons (pe_callB call_abs (by rfl) T.abs_ (by decide +kernel) (pa_cons (pv 0) pa_nil)) (pa_cons (pe_callB call_abs (by rfl) T.abs_ (by decide +kernel) (pa_cons (pv 1) pa_nil)) pa_nil)) (by rfl))
      (pss_cons (ps_while PassesOwn.never (pt_cmpR op_ne (pv 3) pe_int (nomark _))
        (pss_one (ps_par (i := 2) (j := 3) (by rfl) sc_law_ratio.nd rfl rfl (by decide) rfl rfl (pa_cons (pv 3) (pa_cons (pe_op op_mod (pe_callTy call_int1 (by rfl) T.int_ (by decide +kernel) (pa_cons (pv 2) pa_nil)) (pv 3)) pa_nil)) (by rfl))))
      (pss_one (ps_ret (pe_ifExp (pt_cmpR op_gt (pv 1) pe_int (nomark _)) (pe_tup (pa_cons (pe_op op_fdivN (pv 0) (pv 2)) (pa_cons (pe_op op_fdivN (pv 1) (pv 2)) pa_nil))) (pe_tup (pa_cons (pe_op op_sub pe_int (pe_op op_fdivN (pv 0) (pv 2))) (pa_cons (pe_op op_sub pe_int (pe_op op_fdivN (pv 1) (pv 2))) pa_nil)))))))), ?_⟩
    have g0 : 0 < Nat.gcd a b := Nat.gcd_pos_of_pos_right _ hb
    have g1 : Nat.gcd a b ≤ b := Nat.gcd_le_right a hb
    have ab : ∀ x : Nat, V.int (if (x : Int) < 0 then -(x : Int) else x) = nI x := fun x => by rw [if_neg (by omega)]; rfl
    refine ⟨_, rfl, _, rfl, _, rfl, _, rfl, _, _, rfl, ?_⟩
    rw [ab, ab]
    refine ⟨fun m σ2 H2 => H2 = H ∧ ∃ x y : Nat, σ2 = [some (nI a), some (nI b), some (nI x), some (nI y)] ∧ Nat.gcd x y = Nat.gcd a b ∧ y = m, ⟨b, rfl, a, b, rfl, rfl, rfl⟩, ?_⟩
    rintro m σ2 H2 ⟨rfl, x, y, rfl, hg, rfl⟩
    refine ⟨_, rfl, rfl, _, rfl, ?_⟩
    by_cases hy : y = 0
    · subst hy
      refine iteNS rfl ?_
      rw [Nat.gcd_zero_right] at hg
      refine ⟨_, rfl, _, _, rfl, rfl, _, rfl, ?_⟩
      rw [decide_eq_true (show (0 : Int) < b by omega)]
      refine iteT ?_
      rw [hg]
      refine ⟨_, rfl, _, rfl, _, _, rfl, rfl, ⟨by omega, by rw [Int.natAbs_natCast]; omega⟩, ?_⟩
      refine ⟨_, rfl, _, rfl, _, _, rfl, rfl, ⟨by omega, by rw [Int.natAbs_natCast]; omega⟩, ?_⟩
      refine ⟨by show 2 ≤ sizeLine; decide, fun p hp => q p _ hp (Ex.new hp) ?_⟩
      rw [upd_same]
      show some (HO.tup [V.int ((a : Int).fdiv ((Nat.gcd a b : Nat) : Int)), V.int ((b : Int).fdiv ((Nat.gcd a b : Nat) : Int))]) = _
      rw [nI_fdiv, nI_fdiv]
      rfl
    · rw [decide_eq_false (show ¬ nI y = V.int 0 from fun z => hy (nI_inj (a := y) (b := 0) z))]
      refine iteT ⟨fun σ3 H3 => H3 = H2 ∧ σ3 = [some (nI a), some (nI b), some (nI y), some (nI (x % y))], ?_, ?_⟩
      · rintro σ3 H3 ⟨rfl, rfl⟩
        exact ⟨x % y, Nat.mod_lt _ (by omega), rfl, y, x % y, rfl, by rw [← hg, Nat.gcd_comm x y, Nat.gcd_rec y x, Nat.gcd_comm], rfl⟩
      · refine ⟨_, rfl, _, rfl, .inl ⟨x, rfl, _, rfl, _, _, rfl, rfl, by omega, _, _, rfl, rfl, ?_⟩⟩
        dsimp only
        rw [nI_mod]
        rfl
def sp_lspots (K : PySem.W.Frag) : Sp := fun vs H Q _ => ∃ (n : Nat) (a : Addr) (ws : List Nat), vs = [nI n, .ref a] ∧ (SqT K H a (ws.map nI) ∨ SqL K H a (ws.map nI)) ∧ ws.length ≤ n ∧ n ≤ 9 ∧ (∀ x ∈ ws, x < n) ∧ RetL ((spots n ws).map nI) H Q
theorem c_lspots (D : D0 K mg "_law_spots" s_law_spots ["_law_size", "_law_wishes_here"]) (T : Blt mg) : Ca P w K mg base 1 "_law_spots" (sp_lspots K) := by
  refine D.cal sc_law_spots (fun vs H Q E h => ?_) (fun f cdv A outer s H vs Q E hr h => ?_)
  · obtain ⟨n, a, ws, rfl, _⟩ := h
    rfl
  · obtain ⟨n, a, ws, rfl, hc, hl, h9, hw, q⟩ := h
    let Pv : Addr → Nat → L2.St → Hp → Prop := fun o i σ H' => ∃ z, σ = [some (nI n), some (.ref a), some (.ref o), z] ∧ H o = none ∧ Ex H H' ∧ H' o = some (.lst ((spots n (ws.take i)).map nI))
    rcases hc with hS | hS
    · have wk := walk_tup (K := K) (a := a) (xs := ws.map nI)
      have hG : ∀ H', Ex H H' → SqT K H' a (ws.map nI) := fun H' e => e.st hS
      refine ⟨_, (pss_cons (ps_set (i := 2) sc_law_spots.nd rfl (by first | exact Or.inl rfl | exact Or.inr rfl) (pe_lst pa_nil))
      (pss_cons (ps_for PassesOwn.never rfl (Rx.piT K (pv 1)) (pg_name (i := 3) sc_law_spots.nd rfl (by first | exact Or.inl rfl | exact Or.inr rfl))
        (pss_cons (ps_while PassesOwn.never (pt_cmpR (Rx.inS K) (pv 3) (pv 2) (by rfl))
          (pss_one (ps_set (i := 3) sc_law_spots.nd rfl (by first | exact Or.inl rfl | exact Or.inr rfl) (pe_ifExp (pt_cmpR op_lt (pe_op op_add (pv 3) pe_int) (pv 0) (nomark _)) (pe_op op_add (pv 3) pe_int) pe_int))))
        (pss_one (ps_expr (Rx.bm K PySem.F.plainAttrs_list PySem.F.slot_list_append PySem.F.type_list_append mt_append (pv 2) (pa_cons (pv 3) pa_nil))))))
      (pss_one (ps_ret (pv 2))))), ?_⟩
      refine ⟨Nat.zero_le _, fun o no => ?_⟩
      refine go_name ?_
      dsimp only
      refine ⟨.ref a, rfl, a, rfl, ⟨_, hG _ (Ex.new no)⟩, ?_⟩
      refine for_it wk (Pv o) ⟨none, rfl, no, Ex.new no, upd_same⟩ (fun i σ' H' _ p => ?_) (fun i x σ' H0 H1 hi p y => ?_) (fun σ' H' p => ?_)
      · obtain ⟨z, _, _, e, _⟩ := p
        exact hG H' e
      · obtain ⟨z, rfl, p1, e, p4⟩ := p
        obtain ⟨rfl, yv⟩ := y
        obtain ⟨v, hv, rfl⟩ := nI_get yv
        have hvn : v < n := hw v (List.mem_of_getElem? hv)
        have hi' : i < ws.length := by rw [List.length_map] at hi; exact hi
        have hTl : (spots n (ws.take i)).length = i := by rw [spots_len, List.length_take]; omega
        have fr0 : Fr n (spots n (ws.take i)) n v := fr_of (by omega) hvn
        refine ⟨fun m σ2 H2 => H2 = H1 ∧ ∃ y, σ2 = [some (nI n), some (.ref a), some (.ref o), some (nI y)] ∧ Fr n (spots n (ws.take i)) m y ∧ nx n (spots n (ws.take i)) m y = nx n (spots n (ws.take i)) n v,
          ⟨n, rfl, v, rfl, fr0, rfl⟩, ?_⟩
        rintro m σ2 H2 ⟨rfl, y, rfl, fy, ey⟩
        refine ⟨_, rfl, _, rfl, o, _, rfl, .inl (sl_of p4), rfl, flat_nI _, _, rfl, ?_⟩
        show if inV (nI y) ((spots n (ws.take i)).map nI) = true then _ else _
        rw [inV_nI]
        by_cases hy : y ∈ spots n (ws.take i)
        · rw [decide_eq_true hy]
          obtain ⟨m', rfl, fy'⟩ := fy.step hy
          refine iteT ⟨fun σ3 H3 => H3 = H2 ∧ σ3 = [some (nI n), some (.ref a), some (.ref o), some (nI ((y + 1) % n))], ?_, ?_⟩
          · rintro σ3 H3 ⟨rfl, rfl⟩
            refine ⟨m', Nat.lt_succ_self _, rfl, _, rfl, fy', ?_⟩
            rw [← ey]
            conv => rhs; unfold nx
            rw [if_pos hy]
          · refine ⟨_, rfl, _, _, rfl, rfl, _, rfl, _, _, rfl, rfl, _, rfl, ?_⟩
            have hyn := fy.1
            refine ite2 (fun hlt => ?_) (fun hlt => ?_)
            · have h1 : (y : Int) + 1 < n := of_decide_eq_true hlt
              refine ⟨_, rfl, _, _, rfl, rfl, rfl, ?_⟩
              rw [Nat.mod_eq_of_lt (show y + 1 < n by omega)]
              rfl
            · have h1 : ¬ (y : Int) + 1 < n := fun z => hlt (decide_eq_true z)
              refine ⟨rfl, ?_⟩
              rw [show y + 1 = n by omega, Nat.mod_self]
              rfl
        · rw [decide_eq_false hy]
          refine iteF ?_
          have ev : nx n (spots n (ws.take i)) n v = y := by
            rw [← ey]
            cases m with
            | zero => rfl
            | succ m => unfold nx; rw [if_neg hy]
          have e1 : spots n (ws.take (i + 1)) = spots n (ws.take i) ++ [y] := by
            rw [spots_take_succ hv]; unfold add1; rw [ev]
          refine ⟨.ref o, rfl, .inl ⟨rfl, _, .inl (.inl p4)⟩, _, rfl, o, _, _, rfl, rfl, p4, sz_lt (by rw [List.length_map]; omega), ?_⟩
          refine ⟨_, rfl, p1, e.mut p1, ?_⟩
          rw [upd_same, e1, List.map_append]
          rfl
      · obtain ⟨z, rfl, p1, e, p4⟩ := p
        rw [List.length_map, List.take_length] at p4
        exact ⟨_, rfl, q o H' p1 e p4⟩
    · have wk := walk_list (K := K) (a := a) (xs := ws.map nI)
      have hG : ∀ H', Ex H H' → SqL K H' a (ws.map nI) := fun H' e => e.sl hS
      refine ⟨_, (pss_cons (ps_set (i := 2) sc_law_spots.nd rfl (by first | exact Or.inl rfl | exact Or.inr rfl) (pe_lst pa_nil))
      (pss_cons (ps_for PassesOwn.never rfl (Rx.piL K (pv 1)) (pg_name (i := 3) sc_law_spots.nd rfl (by first | exact Or.inl rfl | exact Or.inr rfl))
        (pss_cons (ps_while PassesOwn.never (pt_cmpR (Rx.inS K) (pv 3) (pv 2) (by rfl))
          (pss_one (ps_set (i := 3) sc_law_spots.nd rfl (by first | exact Or.inl rfl | exact Or.inr rfl) (pe_ifExp (pt_cmpR op_lt (pe_op op_add (pv 3) pe_int) (pv 0) (nomark _)) (pe_op op_add (pv 3) pe_int) pe_int))))
        (pss_one (ps_expr (Rx.bm K PySem.F.plainAttrs_list PySem.F.slot_list_append PySem.F.type_list_append mt_append (pv 2) (pa_cons (pv 3) pa_nil))))))
      (pss_one (ps_ret (pv 2))))), ?_⟩
      refine ⟨Nat.zero_le _, fun o no => ?_⟩
      refine go_name ?_
      dsimp only
      refine ⟨.ref a, rfl, a, rfl, ⟨_, hG _ (Ex.new no)⟩, ?_⟩
      refine for_it wk (Pv o) ⟨none, rfl, no, Ex.new no, upd_same⟩ (fun i σ' H' _ p => ?_) (fun i x σ' H0 H1 hi p y => ?_) (fun σ' H' p => ?_)
      · obtain ⟨z, _, _, e, _⟩ := p
        exact hG H' e
      · obtain ⟨z, rfl, p1, e, p4⟩ := p
        obtain ⟨rfl, yv⟩ := y
        obtain ⟨v, hv, rfl⟩ := nI_get yv
        have hvn : v < n := hw v (List.mem_of_getElem? hv)
        have hi' : i < ws.length := by rw [List.length_map] at hi; exact hi
        have hTl : (spots n (ws.take i)).length = i := by rw [spots_len, List.length_take]; omega
        have fr0 : Fr n (spots n (ws.take i)) n v := fr_of (by omega) hvn
        refine ⟨fun m σ2 H2 => H2 = H1 ∧ ∃ y, σ2 = [some (nI n), some (.ref a), some (.ref o), some (nI y)] ∧ Fr n (spots n (ws.take i)) m y ∧ nx n (spots n (ws.take i)) m y = nx n (spots n (ws.take i)) n v,
          ⟨n, rfl, v, rfl, fr0, rfl⟩, ?_⟩
        rintro m σ2 H2 ⟨rfl, y, rfl, fy, ey⟩
        refine ⟨_, rfl, _, rfl, o, _, rfl, .inl (sl_of p4), rfl, flat_nI _, _, rfl, ?_⟩
        show if inV (nI y) ((spots n (ws.take i)).map nI) = true then _ else _
        rw [inV_nI]
        by_cases hy : y ∈ spots n (ws.take i)
        · rw [decide_eq_true hy]
          obtain ⟨m', rfl, fy'⟩ := fy.step hy
          refine iteT ⟨fun σ3 H3 => H3 = H2 ∧ σ3 = [some (nI n), some (.ref a), some (.ref o), some (nI ((y + 1) % n))], ?_, ?_⟩
          · rintro σ3 H3 ⟨rfl, rfl⟩
            refine ⟨m', Nat.lt_succ_self _, rfl, _, rfl, fy', ?_⟩
            rw [← ey]
            conv => rhs; unfold nx
            rw [if_pos hy]
          · refine ⟨_, rfl, _, _, rfl, rfl, _, rfl, _, _, rfl, rfl, _, rfl, ?_⟩
            have hyn := fy.1
            refine ite2 (fun hlt => ?_) (fun hlt => ?_)
            · have h1 : (y : Int) + 1 < n := of_decide_eq_true hlt
              refine ⟨_, rfl, _, _, rfl, rfl, rfl, ?_⟩
              rw [Nat.mod_eq_of_lt (show y + 1 < n by omega)]
              rfl
            · have h1 : ¬ (y : Int) + 1 < n := fun z => hlt (decide_eq_true z)
              refine ⟨rfl, ?_⟩
              rw [show y + 1 = n by omega, Nat.mod_self]
              rfl
        · rw [decide_eq_false hy]
          refine iteF ?_
          have ev : nx n (spots n (ws.take i)) n v = y := by
            rw [← ey]
            cases m with
            | zero => rfl
            | succ m => unfold nx; rw [if_neg hy]
          have e1 : spots n (ws.take (i + 1)) = spots n (ws.take i) ++ [y] := by
            rw [spots_take_succ hv]; unfold add1; rw [ev]
          refine ⟨.ref o, rfl, .inl ⟨rfl, _, .inl (.inl p4)⟩, _, rfl, o, _, _, rfl, rfl, p4, sz_lt (by rw [List.length_map]; omega), ?_⟩
          refine ⟨_, rfl, p1, e.mut p1, ?_⟩
          rw [upd_same, e1, List.map_append]
          rfl
      · obtain ⟨z, rfl, p1, e, p4⟩ := p
        rw [List.length_map, List.take_length] at p4
        exact ⟨_, rfl, q o H' p1 e p4⟩
end
end Px
namespace Px
open PySem L2 PyProof.Rows Kx Tx Ma
/-- all orders of a list -/
def permL : Nat → List Nat → List (List Nat)
  | 0, _ => [[]]
  | d + 1, xs => (List.range xs.length).flatMap fun k => (permL d (xs.take k ++ xs.drop (k + 1))).map fun r => xs.getD k 0 :: r
theorem cut_len {α : Type} {xs : List α} {k d : Nat} (h : xs.length = d + 1) (hk : k < d + 1) : (xs.take k ++ xs.drop (k + 1)).length = d := by
  rw [List.length_append, List.length_take, List.length_drop]
  omega
theorem permL_len : ∀ (d : Nat) (xs : List Nat), xs.length = d → (permL d xs).length = fac d
  | 0, xs, _ => rfl
  | d + 1, xs, h => by
    have e : ∀ m, m ≤ xs.length → ((List.range m).flatMap fun k => (permL d (xs.take k ++ xs.drop (k + 1))).map fun r => xs.getD k 0 :: r).length = m * fac d := by
      intro m
      induction m with
      | zero => intro _; simp
      | succ m ih =>
        intro hm
        rw [List.range_succ, List.flatMap_append, List.length_append, ih (by omega)]
        simp only [List.flatMap_cons, List.flatMap_nil, List.append_nil, List.length_map]
        rw [permL_len d _ (cut_len h (by omega)), Nat.succ_mul]
    show ((List.range xs.length).flatMap _).length = fac (d + 1)
    rw [e _ (Nat.le_refl _), h]
    show (d + 1) * fac d = fac d * (d + 1)
    rw [Nat.mul_comm]
theorem permL_mem : ∀ (d : Nat) (xs r : List Nat), xs.length = d → r ∈ permL d xs → r.length = d
  | 0, xs, r, _, hr => by
    have : r = [] := by simpa [permL] using hr
    rw [this]
    rfl
  | d + 1, xs, r, h, hr => by
    obtain ⟨k, hk, h2⟩ := List.mem_flatMap.mp hr
    obtain ⟨r2, hr2, rfl⟩ := List.mem_map.mp h2
    rw [List.length_cons, permL_mem d _ r2 (cut_len h (by have := List.mem_range.mp hk; omega)) hr2]
section
variable {P : Program} {w : World} {K : PySem.W.Frag} {mg : Str → Option Value} {base : Heap}
def sp_lorders (K : PySem.W.Frag) (d : Nat) : Sp := fun vs H Q _ => ∃ (p : Addr) (xs : List Nat), vs = [.ref p] ∧ SqL K H p (xs.map nI) ∧ xs.length ≤ d ∧
  ∀ o as H2, H o = none → Ex H H2 → H2 o = some (.lst (as.map V.ref)) → LL H2 as (permL xs.length xs) → (∀ a ∈ as, H a = none) → Q (.ref o) H2
theorem dp_L {H : Hp} {a : Addr} {xs : List Nat} (h : SqL K H a (xs.map nI)) : Dp K H (.ref a) (.list (xs.map dI)) := .lst h (dp_nI K H xs)
theorem shaped_L (xs : List Nat) : SeqAt.shaped (.list (xs.map dI)) = true := by
  unfold SeqAt.shaped
  rw [PyData.canLay0, PyData.depth, lay_all, dep_all]
  rfl
theorem eqv_L (xs ys : List Nat) : PyData.eqv (.list (xs.map dI)) (.list (ys.map dI)) = decide (xs = ys) := by
  rw [PyData.eqv]
  exact eqv_all_nI xs ys
theorem c_lorders0 (D : D0 K mg "_law_orders" s_law_orders ["_law_some"]) (T : Blt mg) : Ca P w K mg base 1 "_law_orders" (sp_lorders K 0) := by
  refine D.cal sc_law_orders (fun vs H Q E h => ?_) (fun f cdv A outer s H vs Q E hr h => ?_)
  · obtain ⟨p, xs, rfl, _⟩ := h
    rfl
  · obtain ⟨p, xs, rfl, hp, hl, q⟩ := h
    have hx : xs = [] := List.eq_nil_of_length_eq_zero (by omega)
    subst hx
    refine ⟨_, (pss_cons (ps_if (pt_cmpR (Rx.eqD K hr.units) (pv 0) (pe_lst pa_nil) (nomark _))
        (pss_one (ps_ret (pe_lst (pa_cons (pe_lst pa_nil) pa_nil)))) pss_nil) pss_never), ?_⟩
    refine ⟨_, rfl, Nat.zero_le _, fun b nb => ?_⟩
    have e1 : Ex H (upd H b (.lst [])) := Ex.new nb
    refine ⟨.list (([] : List Nat).map dI), .list (([] : List Nat).map dI), dp_L (e1.sl hp), dp_L (sl_of upd_same), shaped_L _, shaped_L _, ?_⟩
    rw [eqv_L]
    refine ⟨true, rfl, iteT ?_⟩
    refine ⟨Nat.zero_le _, fun c nc => ⟨by show 1 ≤ sizeLine; decide, fun o no => ?_⟩⟩
    have e2 := e1.trans ((Ex.new (o := .lst []) nc).trans (Ex.new (o := .lst [.ref c]) no))
    have nco : c ≠ o := fun z => by rw [← z, upd_same] at no; cases no
    refine q o [c] _ ((e1.trans (Ex.new (o := .lst []) nc)).free o no) e2 upd_same (LL.snoc (as := []) (xss := []) (xs := []) LL.nil ?_) (fun x hx => ?_)
    · rw [upd_ne nco, upd_same]
      rfl
    · rw [List.mem_singleton] at hx
      rw [hx]
      exact e1.free c nc
theorem permL_part (d : Nat) (xs : List Nat) (i : Nat) : ((List.range (i + 1)).flatMap fun k => (permL d (xs.take k ++ xs.drop (k + 1))).map fun r => xs.getD k 0 :: r) =
    ((List.range i).flatMap fun k => (permL d (xs.take k ++ xs.drop (k + 1))).map fun r => xs.getD k 0 :: r) ++ (permL d (xs.take i ++ xs.drop (i + 1))).map fun r => xs.getD i 0 :: r := by
  rw [List.range_succ, List.flatMap_append]
  simp
theorem cut_lo {xs : List Nat} {i : Nat} (h : i ≤ xs.length) : cutV (xs.map nI) none (some (i : Int)) = (xs.take i).map nI := by
  unfold cutV
  rw [HT.sIx_none, HT.sIx_nat, List.length_map, List.drop_zero, Nat.sub_zero, Nat.min_eq_left h, List.map_take]
theorem cut_hi {xs : List Nat} {i : Nat} (h : i + 1 ≤ xs.length) : cutV (xs.map nI) (some ((i : Int) + 1)) none = (xs.drop (i + 1)).map nI := by
  unfold cutV
  rw [HT.sIx_none, show ((i : Int) + 1) = ((i + 1 : Nat) : Int) by omega, HT.sIx_nat, List.length_map, Nat.min_eq_left h, ← List.map_drop, ← List.map_take, List.take_of_length_le (by rw [List.length_drop]; omega)]
theorem LL.app {H : Hp} {as bs : List Addr} {xss yss : List (List Nat)} (h1 : LL H as xss) (h2 : LL H bs yss) : LL H (as ++ bs) (xss ++ yss) := by
  refine ⟨by rw [List.length_append, List.length_append, h1.1, h2.1], fun i a xs e1 e2 => ?_⟩
  by_cases hi : i < as.length
  · rw [List.getElem?_append_left hi] at e1
    rw [List.getElem?_append_left (by rw [← h1.1]; exact hi)] at e2
    exact h1.2 i a xs e1 e2
  · rw [List.getElem?_append_right (by omega)] at e1
    rw [List.getElem?_append_right (by rw [← h1.1]; omega), ← h1.1] at e2
    exact h2.2 _ a xs e1 e2
theorem c_lorders (k d : Nat) (hd : d ≤ 5) (D : D0 K mg "_law_orders" s_law_orders ["_law_some"]) (T : Blt mg) (C_law_orders : Ca P w K mg base k "_law_orders" (sp_lorders K d)) : Ca P w K mg base (k + 1) "_law_orders" (sp_lorders K (d + 1)) := by
  refine D.cal sc_law_orders (fun vs H Q E h => ?_) (fun f cdv A outer s H vs Q E hr h => ?_)
  · obtain ⟨p, xs, rfl, _⟩ := h
    rfl
  · obtain ⟨p, xs, rfl, hp, hl, q⟩ := h
    refine ⟨_, (pss_cons (ps_if (pt_cmpR (Rx.eqD K hr.units) (pv 0) (pe_lst pa_nil) (nomark _))
        (pss_one (ps_ret (pe_lst (pa_cons (pe_lst pa_nil) pa_nil)))) pss_nil)
      (pss_cons (ps_set (i := 1) sc_law_orders.nd rfl (by first | exact Or.inl rfl | exact Or.inr rfl) (pe_lst pa_nil))
      (pss_cons (ps_for PassesOwn.never rfl (pi_range1 (by rfl) T.range_ (pa_cons (pe_callB (Rx.lenK K) (by rfl) T.len_ (by decide +kernel) (pa_cons (pv 0) pa_nil)) pa_nil)) (pg_name (i := 2) sc_law_orders.nd rfl (by first | exact Or.inl rfl | exact Or.inr rfl))
        (pss_one (ps_set (i := 1) sc_law_orders.nd rfl (by first | exact Or.inl rfl | exact Or.inr rfl) (pe_op op_cat (pv 1) (pe_lc (own := [("_law_rest", 3)]) (by rfl) sc_law_orders.nd (Rx.piL K (pe_ca C_law_orders hr (Nat.le_refl _) (by rfl) (pa_cons (pe_op op_cat (pe_slice (Rx.slL K) (pv 0) po_none (po_some (pv 2))) (pe_slice (Rx.slL K) (pv 0) (po_some (pe_op op_add (pv 2) pe_int)) po_none)) pa_nil))) (blkOk_by (own := [("_law_rest", 3)]) (by rfl)) (fun _ _ _ _ _ => (pg_name (i := 3) sc_law_orders.nd rfl (by first | exact Or.inl rfl | exact Or.inr rfl))) (fun _ _ _ _ _ => pts_nil) (fun _ _ _ _ _ => (pe_op op_cat (pe_lst (pa_cons (pe_ix (Rx.ixL K) (pv 0) (pv 2) (fun _ _ => rfl)) pa_nil)) (pv 3))))))))
      (pss_one (ps_ret (pv 1)))))), ?_⟩
    refine ⟨_, rfl, Nat.zero_le _, fun b nb => ?_⟩
    have e1 : Ex H (upd H b (.lst [])) := Ex.new nb
    refine ⟨.list (xs.map dI), .list (([] : List Nat).map dI), dp_L (e1.sl hp), dp_L (sl_of upd_same), shaped_L _, shaped_L _, ?_⟩
    rw [eqv_L]
    by_cases hx : xs = []
    · subst hx
      refine ⟨true, rfl, iteT ?_⟩
      refine ⟨Nat.zero_le _, fun c nc => ⟨by show 1 ≤ sizeLine; decide, fun o no => ?_⟩⟩
      have e2 := e1.trans ((Ex.new (o := .lst []) nc).trans (Ex.new (o := .lst [.ref c]) no))
      have nco : c ≠ o := fun z => by rw [← z, upd_same] at no; cases no
      refine q o [c] _ ((e1.trans (Ex.new (o := .lst []) nc)).free o no) e2 upd_same (LL.snoc (as := []) (xss := []) (xs := []) LL.nil ?_) (fun x hx => ?_)
      · rw [upd_ne nco, upd_same]
        rfl
      · rw [List.mem_singleton] at hx
        rw [hx]
        exact e1.free c nc
    rw [decide_eq_false hx]
    refine ⟨false, rfl, iteF ?_⟩
    have hl0 : xs.length ≠ 0 := fun z => hx (List.eq_nil_of_length_eq_zero z)
    obtain ⟨d0, hl1⟩ : ∃ d0, xs.length = d0 + 1 := ⟨xs.length - 1, by omega⟩
    have hd0 : d0 ≤ d := by omega
    have hd5 : d0 ≤ 5 := by omega
    rw [hl1] at q
    replace hl : xs.length = d0 + 1 := hl1
    clear hl1
    refine ⟨Nat.zero_le _, fun o no => ?_⟩
    have e2 := e1.trans (Ex.new (o := .lst []) no)
    have ho : upd (upd H b (.lst [])) o (.lst []) o = some (.lst []) := upd_same
    generalize upd (upd H b (.lst [])) o (.lst []) = H2 at e2 ho
    refine go_name ?_
    dsimp only
    refine ⟨_, rfl, p, _, rfl, .inl (e2.sl hp), _, rfl, by simp only [List.length_map]; omega, by simp only [List.length_map]; omega, ?_⟩
    have eN : (((xs.map nI).length : Nat) : Int).toNat = xs.length := by rw [List.length_map]; omega
    rw [eN]
    refine for_it (walk_range (lo := 0) (n := xs.length)) (fun i σ' H' => ∃ o as y, σ' = [some (.ref p), some (.ref o), y, none] ∧ Ex H H' ∧ H o = none ∧ H' o = some (.lst (as.map V.ref)) ∧
        LL H' as ((List.range i).flatMap fun k => (permL d0 (xs.take k ++ xs.drop (k + 1))).map fun r => xs.getD k 0 :: r) ∧ as.length ≤ i * fac d0 ∧ ∀ a ∈ as, H a = none)
      ⟨o, [], none, rfl, e2, e1.free o no, ho, LL.nil, Nat.zero_le _, fun a h => by simp at h⟩ (fun _ _ _ _ _ => True.intro) (fun i x σ' H0 H1 hi pq y => ?_) (fun σ' H' pq => ?_)
    · obtain ⟨o, as, y1, rfl, eh, no', ho', hL, hal, hfr⟩ := pq
      obtain ⟨rfl, rfl⟩ := y
      have ex : (fun i : Nat => V.int (0 + (i : Int))) i = nI i := by show V.int _ = V.int _; rw [Int.zero_add]
      rw [ex]
      have hp1 := eh.sl hp
      have hf : fac d0 ≤ 120 := by
        have : ∀ j, j ≤ 5 → fac j ≤ 120 := by decide
        exact this d0 hd5
      refine go_name ?_
      refine go_asg (go_op ?_)
      refine ⟨_, rfl, gL fun Q1 hQ1 => ?_⟩
      have hi' : i < d0 + 1 := by omega
      refine ⟨_, rfl, _, rfl, (i : Int), rfl, p, _, rfl, hp1, fun l1 hl1 => ?_⟩
      have e3 : Ex H1 (upd H1 l1 (.lst (cutV (xs.map nI) none (some (i : Int))))) := Ex.new hl1
      refine ⟨_, rfl, _, rfl, _, _, rfl, rfl, (i : Int) + 1, rfl, p, _, rfl, e3.sl hp1, fun l2 hl2 => ?_⟩
      rw [cut_lo (by omega)] at e3 hl2 ⊢
      rw [cut_hi (by omega)]
      have e4 := e3.trans (Ex.new (o := .lst ((xs.drop (i + 1)).map nI)) hl2)
      have n12 : l1 ≠ l2 := fun z => by rw [← z, upd_same] at hl2; cases hl2
      have h1 : upd (upd H1 l1 (.lst ((xs.take i).map nI))) l2 (.lst ((xs.drop (i + 1)).map nI)) l1 = some (.lst ((xs.take i).map nI)) := by rw [upd_ne n12, upd_same]
      have h2 : upd (upd H1 l1 (.lst ((xs.take i).map nI))) l2 (.lst ((xs.drop (i + 1)).map nI)) l2 = some (.lst ((xs.drop (i + 1)).map nI)) := upd_same
      generalize upd (upd H1 l1 (.lst ((xs.take i).map nI))) l2 (.lst ((xs.drop (i + 1)).map nI)) = H4 at e4 h1 h2
      refine ⟨l1, l2, _, _, rfl, rfl, h1, h2, sz_ok (by simp only [List.length_map, List.length_take, List.length_drop]; omega), fun l3 hl3 => ?_⟩
      have e5 := e4.trans (Ex.new (o := .lst ((xs.take i).map nI ++ (xs.drop (i + 1)).map nI)) hl3)
      refine ⟨l3, xs.take i ++ xs.drop (i + 1), rfl, sl_of (by rw [upd_same, List.map_append]), (by rw [cut_len hl hi']; exact hd0), fun o2 bs H5 ho2 e6 h5 hL50 _ => ⟨o2, rfl, ⟨_, sl_of h5⟩, ?_⟩⟩
      have hL5 : LL H5 bs (permL d0 (xs.take i ++ xs.drop (i + 1))) := by
        have h := hL50
        rw [cut_len hl hi'] at h
        exact h
      have e16 := e5.trans e6
      have hbl : bs.length = fac d0 := by rw [hL5.1, permL_len d0 _ (cut_len hl hi')]
      have hwx : (xs.map nI)[i]? = some (nI (xs.getD i 0)) := get_nI (get_getD hi)
      refine lc_gen (fun D j acc H' => ∃ cs, acc = cs.map V.ref ∧ LL H' cs (((permL d0 (xs.take i ++ xs.drop (i + 1))).take j).map fun r => xs.getD i 0 :: r) ∧ ∀ a ∈ cs, a ≠ D ∧ H a = none) (walk_list (K := K) (a := o2) (xs := bs.map V.ref)) (fun H' e' => e'.sl (sl_of h5)) (by rw [List.length_map]; omega)
        (fun D _ => ⟨[], rfl, LL.nil, fun a h => by simp at h⟩) (fun D j acc x H7 H8 hj nD e8 hD hA y Ry Rn k1 k2 => ?_) (fun L acc H7 nL e7 hLs hlen hA => ?_)
      · obtain ⟨rfl, yv⟩ := y
        obtain ⟨cs, rfl, hC, hne⟩ := hA
        have hj' : j < bs.length := by rw [List.length_map] at hj; exact hj
        have hb1 : bs[j]? = some bs[j] := List.getElem?_eq_getElem hj'
        have ex2 : x = .ref bs[j] := by
          have e := yv
          rw [List.getElem?_map, hb1] at e
          exact (Option.some.inj e).symm
        subst ex2
        obtain ⟨rr, hb2⟩ : ∃ rr, (permL d0 (xs.take i ++ xs.drop (i + 1)))[j]? = some rr := ⟨_, List.getElem?_eq_getElem (by rw [← hL5.1]; exact hj')⟩
        have hbt : H8 bs[j] = some (.lst (rr.map nI)) := e8.lst (hL5.2 j _ rr hb1 hb2)
        have hp8 := (e16.trans e8).sl hp1
        have hrl : rr.length ≤ 100 := by
          rw [permL_mem d0 _ rr (cut_len hl hi') (List.mem_of_getElem? hb2)]
          omega
        refine ⟨rfl, goYes ?_⟩
        refine ⟨_, rfl, _, rfl, p, _, i, nI (xs.getD i 0), rfl, rfl, hp8, atI_nat hwx, by show 1 ≤ sizeLine; decide, fun m1 hm1 => ?_⟩
        have e9 : Ex H8 (upd H8 m1 (.lst [nI (xs.getD i 0)])) := Ex.new hm1
        refine ⟨_, rfl, m1, bs[j], _, _, rfl, rfl, upd_same, e9.lst hbt, sz_ok (by simp only [List.length_map, List.length_cons, List.length_nil]; omega), fun m2 hm2 => ?_⟩
        have e10 := e9.trans (Ex.new (o := .lst ([nI (xs.getD i 0)] ++ rr.map nI)) hm2)
        have nmD : m2 ≠ D := fun z => by
          have := e9.lst hD
          rw [z, this] at hm2
          cases hm2
        refine k1 _ _ e10 ⟨cs ++ [m2], by rw [List.map_append]; rfl, ?_, fun a ha => ?_⟩
        · rw [List.take_add_one, hb2, List.map_append]
          refine LL.snoc (LL.wr (hC.ex e10) (fun a ha => (hne a ha).1)) ?_
          rw [upd_ne nmD, upd_same]
          rfl
        · rcases List.mem_append.mp ha with ha | ha
          · exact hne a ha
          · rw [List.mem_singleton] at ha; rw [ha]; exact ⟨nmD, (eh.trans (e16.trans (e8.trans e9))).free m2 hm2⟩
      · obtain ⟨cs, rfl, hC, hne⟩ := hA
        rw [List.length_map, hL5.1, List.take_length] at hC
        have e17 := e16.trans e7
        have hcl : cs.length ≤ fac d0 := by
          rw [List.length_map, List.length_map] at hlen
          omega
        have hal2 : as.length ≤ 5 * 120 := Nat.le_trans hal (Nat.mul_le_mul (by omega) hf)
        refine hQ1 _ _ ⟨o, L, _, _, rfl, rfl, e17.lst ho', hLs, sz_ok (by simp only [List.length_map]; omega), fun o3 ho3 => ?_⟩
        have e18 := e17.trans (Ex.new (o := .lst (as.map V.ref ++ cs.map V.ref)) ho3)
        have e78 := Ex.new (H := H7) (o := .lst (as.map V.ref ++ cs.map V.ref)) ho3
        refine ⟨o3, as ++ cs, _, rfl, eh.trans e18, (eh.trans e17).free o3 ho3, by rw [upd_same, List.map_append], ?_, by rw [List.length_append, Nat.succ_mul]; omega, fun a ha => ?_⟩
        · rw [permL_part]
          exact LL.app (hL.ex e18) (hC.ex e78)
        · rcases List.mem_append.mp ha with ha | ha
          · exact hfr a ha
          · exact (hne a ha).2
    · obtain ⟨o, as, y1, rfl, eh, no', ho', hL, hal, hfr⟩ := pq
      exact ⟨_, rfl, q o as H' no' eh ho' hL hfr⟩
end
end Px
namespace Px
open PySem L2 PyProof.Rows Kx Tx Ma
section
variable {P : Program} {w : World} {K : PySem.W.Frag} {mg : Str → Option Value} {base : Heap}
def sp_alike0 : Sp := fun vs H Q _ => ∃ v : V, vs = [v, v] ∧ IntBl v ∧ RetV (.bl true) H Q
theorem c_alike0 (D : D0 K mg "_law_alike" s_law_alike ["_law_found", "_law_due"]) (T : Blt mg) : Ca P w K mg base 1 "_law_alike" sp_alike0 := by
  refine D.cal sc_law_alike (fun vs H Q E h => ?_) (fun f cdv A outer s H vs Q E hr h => ?_)
  · obtain ⟨v, rfl, _⟩ := h
    rfl
  · obtain ⟨v, rfl, hv, q⟩ := h
    refine ⟨_, (pss_cons (ps_if (pt_val (pe_callB (Rx.isiT K) (by rfl) T.isinstance_ (by decide +kernel) (pa_cons (pv 1) (pa_cons (pe_tup (pa_cons (pe_bltn (v := .ty "tuple") (by rfl) T.tuple_ (by decide +kernel) rfl) (pa_cons (pe_bltn (v := .ty "list") (by rfl) T.list_ (by decide +kernel) rfl) pa_nil))) pa_nil))))
        pss_never pss_nil)
      (pss_cons (ps_if (PW.pt (pw_or (pt_cmpR op_isN (pv 1) pe_non (nomark _)) (pw_or1 (pt_val (pe_callB (Rx.isiK K) (by rfl) T.isinstance_ (by decide +kernel) (pa_cons (pv 1) (pa_cons (pe_bltn (v := .ty "str") (by rfl) T.str_ (by decide +kernel) rfl) pa_nil)))))))
        (pss_one (ps_ret (pe_and (pe_cmpR op_eq (pv 0) (pv 1) (nomark _)) (pe_one (pe_cmpR op_eq (pe_callB (Rx.isiK K) (by rfl) T.isinstance_ (by decide +kernel) (pa_cons (pv 0) (pa_cons (pe_bltn (v := .ty "str") (by rfl) T.str_ (by decide +kernel) rfl) pa_nil))) (pe_callB (Rx.isiK K) (by rfl) T.isinstance_ (by decide +kernel) (pa_cons (pv 1) (pa_cons (pe_bltn (v := .ty "str") (by rfl) T.str_ (by decide +kernel) rfl) pa_nil))) (nomark _)))))) pss_nil)
      (pss_one (ps_ret (pe_and (pe_callB (Rx.isiK K) (by rfl) T.isinstance_ (by decide +kernel) (pa_cons (pv 0) (pa_cons (pe_bltn (v := .ty "int") (by rfl) T.int_ (by decide +kernel) rfl) pa_nil))) (pe_and (pe_cmpR op_eq (pe_callB (Rx.isiK K) (by rfl) T.isinstance_ (by decide +kernel) (pa_cons (pv 0) (pa_cons (pe_bltn (v := .ty "bool") (by rfl) T.bool_ (by decide +kernel) rfl) pa_nil))) (pe_callB (Rx.isiK K) (by rfl) T.isinstance_ (by decide +kernel) (pa_cons (pv 1) (pa_cons (pe_bltn (v := .ty "bool") (by rfl) T.bool_ (by decide +kernel) rfl) pa_nil))) (nomark _)) (pe_one (pe_cmpR op_eq (pv 0) (pv 1) (nomark _))))))))), ?_⟩
    rcases hv with ⟨i, rfl⟩ | ⟨b, rfl⟩
    · refine ⟨_, rfl, by show 2 ≤ sizeLine; decide, fun tp htp => ?_⟩
      have e1 : Ex H (upd H tp (.tup [.ty "tuple", .ty "list"])) := Ex.new htp
      refine ⟨.int i, tp, _, .type "int", [.type "tuple", .type "list"], false, rfl, upd_same, .cons (.ty _) (.cons (.ty _) .nil), .base (.int i), kitAny_cons (kit_ty (b := "tuple") (r := false) (by decide +kernel)) (fun _ => kitAny_cons (kit_ty (b := "list") (r := false) (by decide +kernel)) (fun _ => kitAny_nil) (fun h => by cases h)) (fun h => by cases h), false, rfl, iteF ?_⟩
      refine ⟨_, rfl, rfl, _, rfl, iteF ?_⟩
      refine ⟨_, rfl, _, _, _, _, false, rfl, .ty "str", .base (.int i), kit_ty (by decide +kernel), false, rfl, iteF ?_⟩
      refine ⟨_, rfl, _, _, _, _, true, rfl, .ty "int", .base (.int i), kit_ty (by decide +kernel), true, rfl, iteT ?_⟩
      refine ⟨_, rfl, _, _, _, _, false, rfl, .ty "bool", .base (.int i), kit_ty (by decide +kernel), _, rfl, _, _, _, _, false, rfl, .ty "bool", .base (.int i), kit_ty (by decide +kernel), rfl, true, rfl, iteT ?_⟩
      refine ⟨_, rfl, _, rfl, rfl, ?_⟩
      dsimp only
      rw [decide_eq_true rfl]
      exact q _ e1
    · refine ⟨_, rfl, by show 2 ≤ sizeLine; decide, fun tp htp => ?_⟩
      have e1 : Ex H (upd H tp (.tup [.ty "tuple", .ty "list"])) := Ex.new htp
      refine ⟨.bl b, tp, _, .type "bool", [.type "tuple", .type "list"], false, rfl, upd_same, .cons (.ty _) (.cons (.ty _) .nil), .base (.bl b), kitAny_cons (kit_ty (b := "tuple") (r := false) (by decide +kernel)) (fun _ => kitAny_cons (kit_ty (b := "list") (r := false) (by decide +kernel)) (fun _ => kitAny_nil) (fun h => by cases h)) (fun h => by cases h), false, rfl, iteF ?_⟩
      refine ⟨_, rfl, rfl, _, rfl, iteF ?_⟩
      refine ⟨_, rfl, _, _, _, _, false, rfl, .ty "str", .base (.bl b), kit_ty (by decide +kernel), false, rfl, iteF ?_⟩
      refine ⟨_, rfl, _, _, _, _, true, rfl, .ty "int", .base (.bl b), kit_ty (by decide +kernel), true, rfl, iteT ?_⟩
      refine ⟨_, rfl, _, _, _, _, true, rfl, .ty "bool", .base (.bl b), kit_ty (by decide +kernel), _, rfl, _, _, _, _, true, rfl, .ty "bool", .base (.bl b), kit_ty (by decide +kernel), rfl, true, rfl, iteT ?_⟩
      refine ⟨_, rfl, _, rfl, rfl, ?_⟩
      dsimp only
      rw [decide_eq_true rfl]
      exact q _ e1
def sp_tupS (spE : Sp) : Sp := fun vs H Q _ => ∃ (p r : Addr) (xs ys : List V), vs = [.ref p, .ref r] ∧ H p = some (.tup xs) ∧ H r = some (.tup ys) ∧ xs.length = ys.length ∧ xs.length ≤ 100 ∧
  (∀ (i : Nat) (x y : V), xs[i]? = some x → ys[i]? = some y → ∀ H', Ex H H' → ∀ Q' : VK, RetV (.bl true) H' Q' → spE [x, y] H' Q' E0) ∧ RetV (.bl true) H Q
theorem c_alikeS {k : Nat} {spE : Sp} (D : D0 K mg "_law_alike" s_law_alike ["_law_found", "_law_due"]) (T : Blt mg) (C_law_alike : Ca P w K mg base k "_law_alike" spE) : Ca P w K mg base (k + 1) "_law_alike" (sp_tupS spE) := by
  refine D.cal sc_law_alike (fun vs H Q E h => ?_) (fun f cdv A outer s H vs Q E hr h => ?_)
  · obtain ⟨p, r, xs, ys, rfl, _⟩ := h
    rfl
  · obtain ⟨p, r, xs, ys, rfl, hp, hr', hl, h100, hel, q⟩ := h
    refine ⟨_, (pss_cons (ps_if (pt_val (pe_callB (Rx.isiT K) (by rfl) T.isinstance_ (by decide +kernel) (pa_cons (pv 1) (pa_cons (pe_tup (pa_cons (pe_bltn (v := .ty "tuple") (by rfl) T.tuple_ (by decide +kernel) rfl) (pa_cons (pe_bltn (v := .ty "list") (by rfl) T.list_ (by decide +kernel) rfl) pa_nil))) pa_nil))))
        (pss_cons (ps_if (PW.pt (pw_or (pt_not (pt_val (pe_callB (Rx.isiT K) (by rfl) T.isinstance_ (by decide +kernel) (pa_cons (pv 0) (pa_cons (pe_tup (pa_cons (pe_bltn (v := .ty "tuple") (by rfl) T.tuple_ (by decide +kernel) rfl) (pa_cons (pe_bltn (v := .ty "list") (by rfl) T.list_ (by decide +kernel) rfl) pa_nil))) pa_nil))))) (pw_or1 (pt_cmpR op_ne (pe_callB (Rx.isiK K) (by rfl) T.isinstance_ (by decide +kernel) (pa_cons (pv 0) (pa_cons (pe_bltn (v := .ty "list") (by rfl) T.list_ (by decide +kernel) rfl) pa_nil))) (pe_callB (Rx.isiK K) (by rfl) T.isinstance_ (by decide +kernel) (pa_cons (pv 1) (pa_cons (pe_bltn (v := .ty "list") (by rfl) T.list_ (by decide +kernel) rfl) pa_nil))) (nomark _)))))
          (pss_one (ps_ret pe_bl)) pss_nil)
        (pss_cons (ps_if (pt_cmpR op_ne (pe_callB (Rx.lenK K) (by rfl) T.len_ (by decide +kernel) (pa_cons (pv 0) pa_nil)) (pe_callB (Rx.lenK K) (by rfl) T.len_ (by decide +kernel) (pa_cons (pv 1) pa_nil)) (nomark _))
          (pss_one (ps_ret pe_bl)) pss_nil)
        (pss_one (ps_ret (pe_cmpR (Rx.eqD K hr.units) (pe_lc (own := [("_law_k", 2)]) (by rfl) sc_law_alike.nd (pi_range1 (by rfl) T.range_ (pa_cons (pe_callB (Rx.lenK K) (by rfl) T.len_ (by decide +kernel) (pa_cons (pv 1) pa_nil)) pa_nil)) (blkOk_by (own := [("_law_k", 2)]) (by rfl)) (fun _ _ _ _ _ => (pg_name (i := 2) sc_law_alike.nd rfl (by first | exact Or.inl rfl | exact Or.inr rfl))) (fun _ _ _ _ _ => pts_one (pt_not (pt_val (pe_ca C_law_alike hr (Nat.le_refl _) (by rfl) (pa_cons (pe_ix (Rx.ixT K) (pv 0) (pv 2) (fun _ _ => rfl)) (pa_cons (pe_ix (Rx.ixT K) (pv 1) (pv 2) (fun _ _ => rfl)) pa_nil)))))) (fun _ _ _ _ _ => (pv 2))) (pe_lst pa_nil) (nomark _)))))) pss_nil)
      (pss_cons (ps_if (PW.pt (pw_or (pt_cmpR op_isN (pv 1) pe_non (nomark _)) (pw_or1 (pt_val (pe_callB (Rx.isiK K) (by rfl) T.isinstance_ (by decide +kernel) (pa_cons (pv 1) (pa_cons (pe_bltn (v := .ty "str") (by rfl) T.str_ (by decide +kernel) rfl) pa_nil)))))))
        (pss_one (ps_ret (pe_and (pe_cmpR op_eq (pv 0) (pv 1) (nomark _)) (pe_one (pe_cmpR op_eq (pe_callB (Rx.isiK K) (by rfl) T.isinstance_ (by decide +kernel) (pa_cons (pv 0) (pa_cons (pe_bltn (v := .ty "str") (by rfl) T.str_ (by decide +kernel) rfl) pa_nil))) (pe_callB (Rx.isiK K) (by rfl) T.isinstance_ (by decide +kernel) (pa_cons (pv 1) (pa_cons (pe_bltn (v := .ty "str") (by rfl) T.str_ (by decide +kernel) rfl) pa_nil))) (nomark _)))))) pss_nil)
      (pss_one (ps_ret (pe_and (pe_callB (Rx.isiK K) (by rfl) T.isinstance_ (by decide +kernel) (pa_cons (pv 0) (pa_cons (pe_bltn (v := .ty "int") (by rfl) T.int_ (by decide +kernel) rfl) pa_nil))) (pe_and (pe_cmpR op_eq (pe_callB (Rx.isiK K) (by rfl) T.isinstance_ (by decide +kernel) (pa_cons (pv 0) (pa_cons (pe_bltn (v := .ty "bool") (by rfl) T.bool_ (by decide +kernel) rfl) pa_nil))) (pe_callB (Rx.isiK K) (by rfl) T.isinstance_ (by decide +kernel) (pa_cons (pv 1) (pa_cons (pe_bltn (v := .ty "bool") (by rfl) T.bool_ (by decide +kernel) rfl) pa_nil))) (nomark _)) (pe_one (pe_cmpR op_eq (pv 0) (pv 1) (nomark _))))))))), ?_⟩
    refine ⟨_, rfl, by show 2 ≤ sizeLine; decide, fun tp htp => ?_⟩
    have e1 : Ex H (upd H tp (.tup [.ty "tuple", .ty "list"])) := Ex.new htp
    refine ⟨.ref r, tp, _, .type "tuple", [.type "tuple", .type "list"], true, rfl, upd_same, .cons (.ty _) (.cons (.ty _) .nil), .base (.tup (e1.tup hr')), kitAny_cons (b := true) (kit_ty (b := "tuple") (r := true) (by decide +kernel)) (fun h => by cases h) (fun _ => rfl), true, rfl, iteT ?_⟩
    refine ⟨_, rfl, by show 2 ≤ sizeLine; decide, fun tq htq => ?_⟩
    have e2 := e1.trans (Ex.new (o := .tup [.ty "tuple", .ty "list"]) htq)
    refine ⟨.ref p, tq, _, .type "tuple", [.type "tuple", .type "list"], true, rfl, upd_same, .cons (.ty _) (.cons (.ty _) .nil), .base (.tup (e2.tup hp)), kitAny_cons (b := true) (kit_ty (b := "tuple") (r := true) (by decide +kernel)) (fun h => by cases h) (fun _ => rfl), true, rfl, iteF ?_⟩
    generalize upd (upd H tp (.tup [.ty "tuple", .ty "list"])) tq (.tup [.ty "tuple", .ty "list"]) = H2 at e2
    refine ⟨_, rfl, _, _, _, _, false, rfl, .ty "list", .base (.tup (e2.tup hp)), kit_ty (by decide +kernel), _, rfl, _, _, _, _, false, rfl, .ty "list", .base (.tup (e2.tup hr')), kit_ty (by decide +kernel), rfl, _, rfl, iteNS rfl ?_⟩
    refine ⟨_, rfl, p, _, rfl, .inr (st_of (e2.tup hp)), _, rfl, r, _, rfl, .inr (st_of (e2.tup hr')), rfl, _, rfl, iteNS (by rw [hl]) ?_⟩
    refine go_nxt ?_
    dsimp only
    refine go_ret (go_op (gL fun Q1 hQ1 => ?_))
    refine ⟨_, rfl, r, _, rfl, .inr (st_of (e2.tup hr')), _, rfl, by omega, by omega, ?_⟩
    have eN : ((ys.length : Nat) : Int).toNat = ys.length := by omega
    rw [eN]
    refine lc_vals (fun _ => false) (fun _ => V.non) (walk_range (lo := 0) (n := ys.length)) (fun _ _ => True.intro) (by omega) (fun i x H3 H4 hi e3 y Ry Rn _ q2 => ?_) (fun D3 H3 nD e3 hD => ?_)
    · obtain ⟨rfl, rfl⟩ := y
      have ex : (fun i : Nat => V.int (0 + (i : Int))) i = nI i := by show V.int _ = V.int _; rw [Int.zero_add]
      rw [ex]
      have hx : xs[i]? = some (xs[i]'(by omega)) := List.getElem?_eq_getElem (by omega)
      have hy : ys[i]? = some ys[i] := List.getElem?_eq_getElem hi
      have e13 := e2.trans e3
      refine ⟨rfl, ?_⟩
      refine go_not (go_B (gC fun Q2 hQ2 => ?_))
      refine ⟨_, rfl, _, rfl, p, _, i, _, rfl, rfl, st_of (e13.tup hp), atI_nat hx, _, rfl, _, rfl, r, _, i, _, rfl, rfl, st_of (e13.tup hr'), atI_nat hy, ?_⟩
      refine hel i _ _ hx hy _ e13 _ (fun H5 e5 => hQ2 _ _ ⟨true, rfl, ?_⟩)
      exact iteF (q2 rfl H5 e5)
    · refine hQ1 _ _ ?_
      have eG : giv ys.length (fun _ => false) (fun _ => V.non) = ([] : List Nat).map nI := by
        unfold giv
        rw [List.filter_eq_nil_iff.mpr (fun _ _ => Bool.false_ne_true)]
        rfl
      rw [eG] at hD
      refine ⟨Nat.zero_le _, fun b nb => ?_⟩
      have e4 : Ex H3 (upd H3 b (.lst [])) := Ex.new nb
      refine ⟨.list (([] : List Nat).map dI), .list (([] : List Nat).map dI), dp_L (sl_of (e4.lst hD)), dp_L (sl_of upd_same), shaped_L _, shaped_L _, ?_⟩
      rw [eqv_L, decide_eq_true rfl]
      exact q _ (e2.trans (e3.trans e4))
/-- a tuple of places against its like -/
theorem alike1 {H : Hp} {p r : Addr} {xs : List Nat} {Q : VK} {E : XK} (hp : H p = some (.tup (xs.map nI))) (hr : H r = some (.tup (xs.map nI))) (hl : xs.length ≤ 100) (q : RetV (.bl true) H Q) : sp_tupS sp_alike0 [.ref p, .ref r] H Q E := by
  refine ⟨p, r, _, _, rfl, hp, hr, rfl, by rw [List.length_map]; exact hl, fun i x y hx hy H' e Q' k => ?_, q⟩
  obtain ⟨v, hv, rfl⟩ := nI_get hx
  obtain ⟨u, hu, rfl⟩ := nI_get hy
  rw [hv] at hu
  cases hu
  exact ⟨_, rfl, .inl ⟨_, rfl⟩, k⟩
/-- a tuple of tuples of places against its like -/
theorem alike2 {H : Hp} {p r : Addr} {as bs : List Addr} {xss : List (List Nat)} {Q : VK} {E : XK} (hp : H p = some (.tup (as.map V.ref))) (hr : H r = some (.tup (bs.map V.ref))) (ha : TT_ H as xss) (hb : TT_ H bs xss) (hl : xss.length ≤ 100)
    (hx : ∀ xs ∈ xss, xs.length ≤ 100) (q : RetV (.bl true) H Q) : sp_tupS (sp_tupS sp_alike0) [.ref p, .ref r] H Q E := by
  refine ⟨p, r, _, _, rfl, hp, hr, by rw [List.length_map, List.length_map, ha.1, hb.1], by rw [List.length_map, ha.1]; exact hl, fun i x y h1 h2 H' e Q' k => ?_, q⟩
  rw [List.getElem?_map] at h1 h2
  cases e1 : as[i]? with
  | none => rw [e1] at h1; cases h1
  | some a =>
    cases e2 : bs[i]? with
    | none => rw [e2] at h2; cases h2
    | some b =>
      rw [e1] at h1
      rw [e2] at h2
      cases h1
      cases h2
      obtain ⟨xs, hxs⟩ : ∃ xs, xss[i]? = some xs := ⟨_, List.getElem?_eq_getElem (by rw [← ha.1]; exact (List.getElem?_eq_some_iff.mp e1).1)⟩
      exact alike1 (e.tup (ha.2 i a xs e1 hxs)) (e.tup (hb.2 i b xs e2 hxs)) (hx xs (List.mem_of_getElem? hxs)) k
end
end Px
namespace Px
open PySem L2 PyProof.Rows Kx Tx Ma
theorem gE {te : TE} {σ : L2.St} {H : Hp} {Q : VK} (h : ∀ Q' : VK, (∀ v H, Q v H → Q' v H) → te σ H Q') : te σ H Q := h Q fun _ _ q => q
abbrev NL : List Str := ["_law_script", "_law_row", "_law_size", "_law_wishes_here", "_law_goal", "_law_rows", "_law_least", "_law_wish", "_law_more", "_law_some", "_law_fits", "_law_good", "_law_found", "_law_base", "_law_values", "_law_k", "_law_value", "_law_due", "_law_counts", "_law_walk", "_law_orders_here", "_law_order", "_law_spot", "_law_j", "_law_count", "_law_place"]
abbrev lawX (P : Program) (w : World) (K : PySem.W.Frag) (mg : Str → Option Value) (base : Heap) (f : Addr) (cdv : Value) (A : Around) (outer : List Env) (s : Shared) (H0 : Hp) (E : XK) : Cx :=
  (cxOf CX0 P w K mg base NL "law" (defScope s_law) f cdv A outer s H0 E).nox
/-- a stretch of the law's rows -/
def Seg (X : Cx) (i k : Nat) (pre post : L2.St → Hp → Prop) : Prop := ∃ Tt : TS → TS, (∀ u, PSs X ((defBody s_law).drop (i + k)) u → PSs X ((defBody s_law).drop i) (Tt u)) ∧
  ∀ u D σ H, (∀ H', D.rt (.bl true) H') → pre σ H → (∀ σ' H', post σ' H' → u D σ' H') → Tt u D σ H
/-- what the law has drawn -/
structure LawIn (K : PySem.W.Frag) (S : Addr × List Int) (P1 P2 P3 P4 r n a g : Nat) (ws G : List Nat) (H : Hp) : Prop where
  row : RowAt K S H r
  n2 : 2 ≤ n
  n6 : n ≤ 6
  ha : H a = some (.tup (ws.map nI))
  hg : H g = some (.tup (G.map nI))
  l4 : ws.length ≤ 4
  len : ws.length ≤ n
  ltW : ∀ x ∈ ws, x < n
  rise : Rise G
  ltG : ∀ x ∈ G, x < n
  glen : G.length = ws.length
  t1 : GxR.TabG H P1
  t2 : GxR.TabG H P2
  t3 : GxR.TabG H P3
  t4 : GxR.TabG H P4
theorem LawIn.ex {K : PySem.W.Frag} {S : Addr × List Int} {P1 P2 P3 P4 r n a g : Nat} {ws G : List Nat} {H H' : Hp} (h : LawIn K S P1 P2 P3 P4 r n a g ws G H) (e : Ex H H') : LawIn K S P1 P2 P3 P4 r n a g ws G H' :=
  ⟨h.row.ex e, h.n2, h.n6, e.tup h.ha, e.tup h.hg, h.l4, h.len, h.ltW, h.rise, h.ltG, h.glen, e.tab _ h.t1, e.tab _ h.t2, e.tab _ h.t3, e.tab _ h.t4⟩
theorem hu65 {k : Nat} {A : Around} (r : Room k A) : A.units + 65 < cLine := by
  have h := r.un
  omega
def StA (K : PySem.W.Frag) (sc P1 P2 P3 P4 : Addr) (σ : L2.St) (H : Hp) : Prop := ∃ (S : Addr × List Int) (r n a g : Nat) (ws G : List Nat), LawIn K S P1 P2 P3 P4 r n a g ws G H ∧
  σ = [some (.ref sc), some (.ref r), some (nI n), some (.ref a), some (.ref g), none, none, none, none, none, none, none, none, none, none, none, none, none, none, none, none, none, none, none, none, none]
theorem RX.tab {K : PySem.W.Frag} {S : Addr × List Int} {H H1 : Hp} {r Pt : Addr} (a : RX K S r H H1) (h : RowAt K S H r) (t : GxR.TabG H Pt) : GxR.TabG H1 Pt := by
  refine a.2.tab _ ?_
  obtain ⟨ps, e, tr⟩ := t
  obtain ⟨i, j, c, h1, _⟩ := h
  exact ⟨ps, by rw [drop_ne (fun z => by rw [z, h1] at e; cases e)]; exact e, tr⟩
end Px
namespace Px
open PySem L2 PyProof.Rows Kx Tx Ma
section
variable {P : Program} {w : World} {K : PySem.W.Frag} {mg : Str → Option Value} {base : Heap} {f : Addr} {cdv : Value} {A : Around} {outer : List Env} {s : Shared} {H0 : Hp} {E : XK}
theorem segA {sc P1 P2 P3 P4 : Addr} {zs : List Int} (T : Blt mg) (hr : Room 9 (A.deeper (envOfC "law" (defScope s_law) s.heap.objs.size f cdv)))
    (C_law_taken : Ca P w K mg base 1 "_law_taken" (sp_taken K)) (C_law_wishes : Ca P w K mg base 3 "_law_wishes" (sp_wishes K)) (C_law_spots : Ca P w K mg base 1 "_law_spots" (sp_lspots K)) :
    Seg (lawX P w K mg base f cdv A outer s H0 E) 0 4 (fun σ H => σ = start NL [.ref sc] ∧ SqL K H sc (zs.map V.int) ∧ GxR.TabG H P1 ∧ GxR.TabG H P2 ∧ GxR.TabG H P3 ∧ GxR.TabG H P4) (StA K sc P1 P2 P3 P4) := by
  refine ⟨fun u => tSeq _ (tSeq _ (tSeq _ (tSeq _ u))), fun u hu => pss_cons (ps_set (i := 1) sc_law.nd rfl (by first | exact Or.inl rfl | exact Or.inr rfl) (pe_lst (pa_cons (pv 0) (pa_cons pe_int (pa_cons pe_int (pa_cons pe_int pa_nil)))))) (pss_cons (ps_set (i := 2) sc_law.nd rfl (by first | exact Or.inl rfl | exact Or.inr rfl) (pe_op op_add pe_int (pe_ca C_law_taken hr (by decide) (by rfl) (pa_cons (pv 1) (pa_cons pe_int pa_nil))))) (pss_cons (ps_set (i := 3) sc_law.nd rfl (by first | exact Or.inl rfl | exact Or.inr rfl) (pe_slice (Rx.slA K) (pe_ca C_law_wishes hr (by decide) (by rfl) (pa_cons (pv 1) (pa_cons (pv 2) pa_nil))) po_none (po_some pe_int))) (pss_cons (ps_set (i := 4) sc_law.nd rfl (by first | exact Or.inl rfl | exact Or.inr rfl) (pe_callTy (Rx.tupK K) (by rfl) T.tuple_ (by decide +kernel) (pa_cons (pe_callB (Rx.srtI K) (by rfl) T.sorted_ (by decide +kernel) (pa_cons (pe_ca C_law_spots hr (by decide) (by rfl) (pa_cons (pv 2) (pa_cons (pe_lc (own := [("_law_wish", 7)]) (by rfl) sc_law.nd (Rx.piT K (pv 3)) (blkOk_by (own := [("_law_wish", 7)]) (by rfl)) (fun _ _ _ _ _ => (pg_name (i := 7) sc_law.nd rfl (by first | exact Or.inl rfl | exact Or.inr rfl))) (fun _ _ _ _ _ => pts_nil) (fun _ _ _ _ _ => (pe_ca C_law_taken hr (by decide) (by rfl) (pa_cons (pv 1) (pa_cons (pv 2) pa_nil))))) pa_nil))) pa_nil)) pa_nil))) hu))), ?_⟩
  rintro u D σ H hrt ⟨rfl, hs, hP1, hP2, hP3, hP4⟩ hnx
  refine ⟨_, rfl, by show 4 ≤ sizeLine; decide, fun r nr => ?_⟩
  have e1 : Ex H (upd H r (.lst [.ref sc, .int 0, .int 8832, .int 0])) := Ex.new nr
  have hR : RowAt K (sc, zs) (upd H r (.lst [.ref sc, .int 0, .int 8832, .int 0])) r := by
    refine ⟨0, 8832, 0, upd_same, Int.le_refl _, ?_⟩
    rcases hs with hs | hs
    · refine .inl ⟨e1.rdL hs, fun z => ?_⟩
      rcases hs with hs | ⟨o, hs⟩
      · rw [show sc = r from z, nr] at hs; cases hs
      · rw [show sc = r from z, nr] at hs; cases hs
    · exact .inr fun H' => .inr hs
  have t1 := e1.tab _ hP1
  have t2 := e1.tab _ hP2
  have t3 := e1.tab _ hP3
  have t4 := e1.tab _ hP4
  generalize upd H r (.lst [.ref sc, .int 0, .int 8832, .int 0]) = H1 at hR t1 t2 t3 t4
  refine go_name ?_
  dsimp only
  refine ⟨_, rfl, (sc, zs), r, 5, rfl, by decide, by decide, hR, fun v H2 hv nr2 => ⟨_, _, rfl, rfl, ?_⟩⟩
  have x2 := RX.of_new nr2
  have en : V.int (2 + (v : Int)) = nI (2 + v) := by show V.int _ = V.int _; congr 1
  dsimp only
  rw [en]
  have n2 : 2 ≤ 2 + v := by omega
  have n6 : 2 + v ≤ 6 := by omega
  generalize 2 + v = n at n2 n6
  refine go_name ?_
  refine go_seq (go_asg (gE fun Q1 hQ1 => ?_))
  refine ⟨_, rfl, _, rfl, (sc, zs), r, n, rfl, n2, by omega, nr2.1, fun a0 H3 ws0 na0 x3 ha0 hl0 hw0 => ?_⟩
  have x13 := x2.trans x3
  -- the wishes, four at most
  have kont : ∀ a H4, Ex H3 H4 → H4 a = some (.tup ((ws0.take 4).map nI)) → Q1 (.ref a) H4 := by
    intro a H4 e4 ha
    refine hQ1 _ _ ?_
    have l4 : (ws0.take 4).length ≤ 4 := by rw [List.length_take]; omega
    have len : (ws0.take 4).length ≤ n := by rw [List.length_take]; omega
    have ltW : ∀ x ∈ ws0.take 4, x < n := fun x hx => hw0 x (List.mem_of_mem_take hx)
    generalize ws0.take 4 = ws at ha l4 len ltW
    have x14 := x13.trans (RX.of_ex x13.1 e4)
    refine go_name ?_
    dsimp only
    refine go_seq (go_asg (go_cty (go_cons (go_cb (go_cons (go_cll (go_cons ⟨_, rfl, go_cons (gL fun Q2 hQ2 => ?_)⟩)))))))
    refine ⟨.ref a, rfl, a, rfl, ⟨_, st_of ha⟩, ?_⟩
    have nar : a ≠ r := x14.1.neT ha
    refine lc_row (S := (sc, zs)) (r := r) (fun x => x < n) (walk_tup (K := K) (a := a) (xs := ws.map nI)) (Yv := fun _ _ => True) (fun i H x H' y => ⟨y.1, True.intro⟩) (fun H' x' => st_of (x'.tup ha nar)) (by rw [List.length_map]; omega) x14.1 (fun i x H5 hi _ x5 Ry kR Rn => ?_) (fun L H5 us nL x5 hL hl hp => ?_)
    · exact ⟨rfl, goYes ⟨_, rfl, _, rfl, (sc, zs), r, n, rfl, by omega, by omega, x5.1, fun v H6 hv nr6 => kR v H6 hv (RX.of_new nr6)⟩⟩
    · rw [List.length_map] at hl
      refine hQ2 _ _ ?_
      refine ⟨n, L, us, rfl, .inr (sl_of hL), by omega, by omega, hp, fun o H6 ho e6 ho6 => ?_⟩
      refine ⟨o, (spots n us).map Int.ofNat, rfl, sl_of (by rw [ho6, List.map_map]; rfl), fun ns' q9 hperm hsort hq9 => ?_⟩
      obtain ⟨G, hG, rfl⟩ := perm_map_ex hperm _ rfl
      have e9 : Ex H6 (upd H6 q9 (.lst ((G.map Int.ofNat).map V.int))) := Ex.new hq9
      have hq99 : upd H6 q9 (.lst ((G.map Int.ofNat).map V.int)) q9 = some (.lst (G.map nI)) := by
        rw [upd_same, List.map_map]
        rfl
      generalize upd H6 q9 (.lst ((G.map Int.ofNat).map V.int)) = H9 at e9 hq99
      refine ⟨q9, _, rfl, .inl ⟨sl_of hq99, fun g hg => ?_⟩⟩
      have e10 : Ex H9 (upd H9 g (.tup (G.map nI))) := Ex.new hg
      have hgg : upd H9 g (.tup (G.map nI)) g = some (.tup (G.map nI)) := upd_same
      generalize upd H9 g (.tup (G.map nI)) = H10 at e10 hgg
      have e60 := e6.trans (e9.trans e10)
      have tk := spots_tk (n := n) (ws := us) (by omega) hp
      have hs2 : G.Pairwise (· ≤ ·) := by
        rw [List.pairwise_map] at hsort
        exact hsort.imp (fun h => Int.ofNat_le.mp h)
      have x15 := x14.trans (x5.trans (RX.of_ex x5.1 e60))
      have haE : H10 a = some (.tup (ws.map nI)) := (RX.of_ex x5.1 e60).tup (x5.tup ha nar) nar
      refine go_name ?_
      dsimp only
      refine hnx _ _ ⟨(sc, zs), r, n, a, g, ws, G, ⟨x15.1, n2, n6, haE, hgg, l4, len, ltW, ?_, ?_, ?_, x15.tab hR t1, x15.tab hR t2, x15.tab hR t3, x15.tab hR t4⟩, rfl⟩
      · exact pair_rise (lt_of_le_nd hs2 (hG.nodup_iff.mpr tk.nd))
      · exact fun x hx => tk.lt x (hG.mem_iff.mp hx)
      · rw [hG.length_eq, spots_len, hl]
  refine ⟨(4 : Int), rfl, a0, _, rfl, st_of ha0, fun hw => ?_, fun hw p hp => ?_⟩
  · refine kont a0 H3 (Ex.refl _) ?_
    rw [List.take_of_length_le ?_]
    · exact ha0
    · have h2 := hw.2
      rw [show ((4 : Int)) = ((4 : Nat) : Int) from rfl, HT.sIx_nat, List.length_map] at h2
      omega
  · refine kont p _ (Ex.new hp) ?_
    rw [upd_same]
    congr 2
    unfold cutV
    rw [HT.sIx_none, show ((4 : Int)) = ((4 : Nat) : Int) from rfl, HT.sIx_nat, List.length_map, List.drop_zero, Nat.sub_zero, ← List.map_take]
    congr 1
    by_cases h4 : 4 ≤ ws0.length
    · rw [Nat.min_eq_left h4]
    · rw [Nat.min_eq_right (by omega), List.take_of_length_le (Nat.le_refl _), List.take_of_length_le (by omega)]
end
end Px
namespace Px
open PySem L2 PyProof.Rows Kx Tx Ma
/-- all rows of wishes -/
def rowsL (n : Nat) : Nat → List (List Nat)
  | 0 => [[]]
  | j + 1 => (rowsL n j).flatMap fun r => (List.range n).map fun p => r ++ [p]
theorem mem_rowsL {n : Nat} : ∀ {m : Nat} {r : List Nat}, r ∈ rowsL n m ↔ r.length = m ∧ ∀ x ∈ r, x < n
  | 0, r => by
    show r ∈ [[]] ↔ _
    rw [List.mem_singleton]
    constructor
    · rintro rfl
      exact ⟨rfl, fun x h => by simp at h⟩
    · rintro ⟨h, _⟩
      exact List.eq_nil_of_length_eq_zero h
  | m + 1, r => by
    show r ∈ (rowsL n m).flatMap _ ↔ _
    rw [List.mem_flatMap]
    constructor
    · rintro ⟨q, hq, h⟩
      obtain ⟨p, hp, rfl⟩ := List.mem_map.mp h
      obtain ⟨h1, h2⟩ := mem_rowsL.mp hq
      refine ⟨by rw [List.length_append, List.length_singleton, h1], fun x hx => ?_⟩
      rcases List.mem_append.mp hx with hx | hx
      · exact h2 x hx
      · rw [List.mem_singleton] at hx; rw [hx]; exact List.mem_range.mp hp
    · rintro ⟨h1, h2⟩
      have hne : r ≠ [] := fun e => by rw [e] at h1; cases h1
      refine ⟨r.dropLast, mem_rowsL.mpr ⟨by rw [List.length_dropLast, h1]; rfl, fun x hx => h2 x ((List.dropLast_sublist _).subset hx)⟩, List.mem_map.mpr ⟨r.getLast hne, List.mem_range.mpr (h2 _ (List.getLast_mem hne)), List.dropLast_concat_getLast hne⟩⟩
theorem flat_len {n : Nat} : ∀ R : List (List Nat), (R.flatMap fun r => (List.range n).map fun p => r ++ [p]).length = R.length * n
  | [] => by simp
  | r :: R => by
    rw [List.flatMap_cons, List.length_append, flat_len R, List.length_map, List.length_range, List.length_cons, Nat.succ_mul]
    omega
theorem rowsL_len {n : Nat} (h : n ≤ 6) : ∀ m, (rowsL n m).length ≤ 6 ^ m
  | 0 => Nat.le_refl 1
  | m + 1 => by
    show ((rowsL n m).flatMap _).length ≤ _
    rw [flat_len, Nat.pow_succ]
    exact Nat.mul_le_mul (rowsL_len h m) h
theorem rows1296 {n m : Nat} (h : n ≤ 6) (hm : m ≤ 4) : (rowsL n m).length ≤ 1296 := Nat.le_trans (rowsL_len h m) (Nat.le_trans (Nat.pow_le_pow_right (by decide) hm) (by decide))
def fitsL (n m : Nat) (G : List Nat) : List (List Nat) := (rowsL n m).filter (fitsB n G)
def minL (ws : List Nat) (l : Nat) (r : List Nat) : Nat := if ham r ws < l then ham r ws else l
def leastL (n : Nat) (ws G : List Nat) : Nat := (fitsL n ws.length G).foldl (minL ws) 9
def goodL (n : Nat) (ws G : List Nat) : List (List Nat) := (fitsL n ws.length G).filter fun r => decide (ham r ws = leastL n ws G)
/-- how many places differ, as the law counts them -/
theorem ham_rd {K : PySem.W.Frag} {mg : Str → Option Value} {a c : Addr} {ws r : List Nat} {y0 y1 y2 y4 y5 y6 y7 y8 y10 y11 y12 y13 y14 y15 y16 y17 y18 y19 y20 y21 y22 y23 y24 y25 : Option V} {H : Hp} {Q : VK}
    (ha : SqT K H a (ws.map nI)) (hc : SqT K H c (r.map nI)) (hl : r.length = ws.length) (h4 : ws.length ≤ 4) (q : ∀ H2, Ex H H2 → Q (nI (ham r ws)) H2) :
    tCB (Rx.rLen K) (tCons (tLc (iRng1 (tCons (tCB (Rx.rLen K) (tCons (tVar 3) tNil)) tNil)) (gName 15) (tTest (tOp rNe (tOp (rIxT K) (tVar 9) (tVar 15)) (tOp (rIxT K) (tVar 3) (tVar 15)))) (tVar 15) [15]) tNil)
      [y0, y1, y2, some (.ref a), y4, y5, y6, y7, y8, some (.ref c), y10, y11, y12, y13, y14, y15, y16, y17, y18, y19, y20, y21, y22, y23, y24, y25] H Q := by
  refine go_cb (go_cons (gL fun Q1 hQ1 => ?_))
  refine ⟨_, rfl, a, _, rfl, .inr ha, _, rfl, by simp only [List.length_map]; omega, by simp only [List.length_map]; omega, ?_⟩
  have eN : (((ws.map nI).length : Nat) : Int).toNat = ws.length := by rw [List.length_map]; omega
  rw [eN]
  refine lc_vals (fun i => decide (r.getD i 0 ≠ ws.getD i 0)) (fun i => nI i) (walk_range (lo := 0) (n := ws.length)) (fun _ _ => True.intro) (by omega) (fun i x H3 H4 hi e3 y Ry Rn q1 q2 => ?_) (fun D1 H1 nD e1 hD => ?_)
  · obtain ⟨rfl, rfl⟩ := y
    have ex : (fun i : Nat => V.int (0 + (i : Int))) i = nI i := by show V.int _ = V.int _; rw [Int.zero_add]
    rw [ex]
    have h1 : (r.map nI)[i]? = some (nI (r.getD i 0)) := get_nI (get_getD (by omega))
    have h2 : (ws.map nI)[i]? = some (nI (ws.getD i 0)) := get_nI (get_getD hi)
    refine ⟨rfl, ?_⟩
    refine ⟨_, rfl, _, rfl, c, _, i, _, rfl, rfl, e3.st hc, atI_nat h1, _, rfl, _, rfl, a, _, i, _, rfl, rfl, e3.st ha, atI_nat h2, rfl, _, rfl, ?_⟩
    by_cases hik : r.getD i 0 = ws.getD i 0
    · rw [decide_eq_false (show ¬ r.getD i 0 ≠ ws.getD i 0 from fun z => z hik)] at q2
      exact iteNS (congrArg nI hik) (q2 rfl _ (Ex.refl _))
    · rw [decide_eq_true (show r.getD i 0 ≠ ws.getD i 0 from hik)] at q1
      rw [decide_eq_false (show ¬ nI (r.getD i 0) = nI (ws.getD i 0) from fun z => hik (nI_inj z))]
      exact iteT ⟨_, rfl, q1 rfl _ (Ex.refl _)⟩
  · refine hQ1 _ _ ⟨D1, _, rfl, .inl (sl_of hD), ?_⟩
    have eL : (giv ws.length (fun i => decide (r.getD i 0 ≠ ws.getD i 0)) (fun i => nI i)).length = ham r ws := by
      unfold giv
      rw [List.length_map, ← hl]
      exact ham_idx r ws hl
    rw [eL]
    exact q _ e1
def StB (K : PySem.W.Frag) (sc P1 P2 P3 P4 : Addr) (σ : L2.St) (H : Hp) : Prop := ∃ (S : Addr × List Int) (r n a g fp gp : Nat) (ws G : List Nat) (fs gs : List Addr) (y5 y7 y8 y9 : Option V), LawIn K S P1 P2 P3 P4 r n a g ws G H ∧
  H fp = some (.lst (fs.map V.ref)) ∧ TT_ H fs (fitsL n ws.length G) ∧ H gp = some (.lst (gs.map V.ref)) ∧ TT_ H gs (goodL n ws G) ∧
  σ = [some (.ref sc), some (.ref r), some (nI n), some (.ref a), some (.ref g), y5, some (nI (leastL n ws G)), y7, y8, y9, some (.ref fp), some (.ref gp), none, none, none, none, none, none, none, none, none, none, none, none, none, none]
end Px
namespace Px
open PySem L2 PyProof.Rows Kx Tx Ma
theorem rows_part (n : Nat) (R : List (List Nat)) {j : Nat} {r : List Nat} (h : R[j]? = some r) : (R.take (j + 1)).flatMap (fun r => (List.range n).map fun p => r ++ [p]) = (R.take j).flatMap (fun r => (List.range n).map fun p => r ++ [p]) ++ (List.range n).map fun p => r ++ [p] := by
  rw [List.take_add_one, h, List.flatMap_append]
  simp
theorem filt_snoc {α : Type} (p : α → Bool) {R : List α} {j : Nat} {r : α} (h : R[j]? = some r) : (R.take (j + 1)).filter p = if p r = true then (R.take j).filter p ++ [r] else (R.take j).filter p := by
  rw [List.take_add_one, h, List.filter_append]
  cases hp : p r <;> simp [List.filter, hp]
theorem ref_get {as : List Addr} {i : Nat} {x : V} (h : (as.map V.ref)[i]? = some x) : ∃ c, as[i]? = some c ∧ x = .ref c := by
  rw [List.getElem?_map] at h
  cases e : as[i]? with
  | none => rw [e] at h; cases h
  | some c => rw [e] at h; exact ⟨c, rfl, (Option.some.inj h).symm⟩
theorem TT_.at {H : Hp} {as : List Addr} {xss : List (List Nat)} {i : Nat} {c : Addr} (h : TT_ H as xss) (hc : as[i]? = some c) : ∃ r, xss[i]? = some r ∧ H c = some (.tup (r.map nI)) := by
  have hi := (List.getElem?_eq_some_iff.mp hc).1
  have e : xss[i]? = some (xss[i]'(by rw [← h.1]; exact hi)) := List.getElem?_eq_getElem _
  exact ⟨_, e, h.2 i c _ hc e⟩
section
variable {P : Program} {w : World} {K : PySem.W.Frag} {mg : Str → Option Value} {base : Heap} {f : Addr} {cdv : Value} {A : Around} {outer : List Env} {s : Shared} {H0 : Hp} {E : XK}
theorem segB {sc P1 P2 P3 P4 : Addr} (T : Blt mg) (hr : Room 9 (A.deeper (envOfC "law" (defScope s_law) s.heap.objs.size f cdv)))
    (C_law_spots : Ca P w K mg base 1 "_law_spots" (sp_lspots K)) :
    Seg (lawX P w K mg base f cdv A outer s H0 E) 4 5 (StA K sc P1 P2 P3 P4) (StB K sc P1 P2 P3 P4) := by
  refine ⟨fun u => tSeq _ (tSeq _ (tSeq _ (tSeq _ (tSeq _ u)))), fun u hu => pss_cons (ps_asg (pe_tup (pa_cons (pe_lst (pa_cons (pe_tup pa_nil) pa_nil)) (pa_cons pe_int pa_nil))) (Rx.pgT (n := 2) K rfl (pgs_cons (pg_name (i := 5) sc_law.nd rfl (by first | exact Or.inl rfl | exact Or.inr rfl)) (pgs_cons (pg_name (i := 6) sc_law.nd rfl (by first | exact Or.inl rfl | exact Or.inr rfl)) pgs_nil)))) (pss_cons (ps_for PassesOwn.never rfl (Rx.piT K (pv 3)) (pg_name (i := 7) sc_law.nd rfl (by first | exact Or.inl rfl | exact Or.inr rfl))
        (pss_cons (ps_set (i := 8) sc_law.nd rfl (by first | exact Or.inl rfl | exact Or.inr rfl) (pe_lst pa_nil))
        (pss_cons (ps_for PassesOwn.never rfl (Rx.piL K (pv 5)) (pg_name (i := 9) sc_law.nd rfl (by first | exact Or.inl rfl | exact Or.inr rfl))
          (pss_one (ps_set (i := 8) sc_law.nd rfl (by first | exact Or.inl rfl | exact Or.inr rfl) (pe_op op_cat (pv 8) (pe_lc (own := [("_law_place", 25)]) (by rfl) sc_law.nd (pi_range1 (by rfl) T.range_ (pa_cons (pv 2) pa_nil)) (blkOk_by (own := [("_law_place", 25)]) (by rfl)) (fun _ _ _ _ _ => (pg_name (i := 25) sc_law.nd rfl (by first | exact Or.inl rfl | exact Or.inr rfl))) (fun _ _ _ _ _ => pts_nil) (fun _ _ _ _ _ => (pe_op (Rx.catA K) (pv 9) (pe_tup (pa_cons (pv 25) pa_nil)))))))))
        (pss_one (ps_set (i := 5) sc_law.nd rfl (by first | exact Or.inl rfl | exact Or.inr rfl) (pv 8)))))) (pss_cons (ps_setLc (i := 10) (own := [("_law_some", 9)]) (by rfl) sc_law.nd rfl rfl (sw_true rfl rfl rfl (by decide +kernel)) (Rx.piL K (pv 5)) (blkOk_by (own := [("_law_some", 9)]) (by rfl)) (fun _ _ _ _ _ => (pg_name (i := 9) sc_law.nd rfl (by first | exact Or.inl rfl | exact Or.inr rfl))) (fun _ _ _ _ _ => pts_one (pt_cmpR (Rx.eqD K hr.units) (pe_callTy (Rx.tupK K) (by rfl) T.tuple_ (by decide +kernel) (pa_cons (pe_callB (Rx.srtI K) (by rfl) T.sorted_ (by decide +kernel) (pa_cons (pe_ca C_law_spots hr (by decide) (by rfl) (pa_cons (pv 2) (pa_cons (pv 9) pa_nil))) pa_nil)) pa_nil)) (pv 4) (nomark _))) (fun _ _ _ _ _ => (pv 9))) (pss_cons (ps_for PassesOwn.never rfl (Rx.piL K (pv 10)) (pg_name (i := 9) sc_law.nd rfl (by first | exact Or.inl rfl | exact Or.inr rfl))
        (pss_one (ps_set (i := 6) sc_law.nd rfl (by first | exact Or.inl rfl | exact Or.inr rfl) (pe_callB (call_min2 rfl) (by rfl) T.min_ (by decide +kernel) (pa_cons (pv 6) (pa_cons (pe_callB (Rx.lenK K) (by rfl) T.len_ (by decide +kernel) (pa_cons (pe_lc (own := [("_law_k", 15)]) (by rfl) sc_law.nd (pi_range1 (by rfl) T.range_ (pa_cons (pe_callB (Rx.lenK K) (by rfl) T.len_ (by decide +kernel) (pa_cons (pv 3) pa_nil)) pa_nil)) (blkOk_by (own := [("_law_k", 15)]) (by rfl)) (fun _ _ _ _ _ => (pg_name (i := 15) sc_law.nd rfl (by first | exact Or.inl rfl | exact Or.inr rfl))) (fun _ _ _ _ _ => pts_one (pt_cmpR op_ne (pe_ix (Rx.ixT K) (pv 9) (pv 15) (fun _ _ => rfl)) (pe_ix (Rx.ixT K) (pv 3) (pv 15) (fun _ _ => rfl)) (nomark _))) (fun _ _ _ _ _ => (pv 15))) pa_nil)) pa_nil)))))) (pss_cons (ps_setLc (i := 11) (own := [("_law_some", 9)]) (by rfl) sc_law.nd rfl rfl (sw_true rfl rfl rfl (by decide +kernel)) (Rx.piL K (pv 10)) (blkOk_by (own := [("_law_some", 9)]) (by rfl)) (fun _ _ _ _ _ => (pg_name (i := 9) sc_law.nd rfl (by first | exact Or.inl rfl | exact Or.inr rfl))) (fun _ _ _ _ _ => pts_one (pt_cmpR op_eq (pe_callB (Rx.lenK K) (by rfl) T.len_ (by decide +kernel) (pa_cons (pe_lc (own := [("_law_k", 15)]) (by rfl) sc_law.nd (pi_range1 (by rfl) T.range_ (pa_cons (pe_callB (Rx.lenK K) (by rfl) T.len_ (by decide +kernel) (pa_cons (pv 3) pa_nil)) pa_nil)) (blkOk_by (own := [("_law_k", 15)]) (by rfl)) (fun _ _ _ _ _ => (pg_name (i := 15) sc_law.nd rfl (by first | exact Or.inl rfl | exact Or.inr rfl))) (fun _ _ _ _ _ => pts_one (pt_cmpR op_ne (pe_ix (Rx.ixT K) (pv 9) (pv 15) (fun _ _ => rfl)) (pe_ix (Rx.ixT K) (pv 3) (pv 15) (fun _ _ => rfl)) (nomark _))) (fun _ _ _ _ _ => (pv 15))) pa_nil)) (pv 6) (nomark _))) (fun _ _ _ _ _ => (pv 9))) hu)))), ?_⟩
  rintro u D σ H hrt ⟨S, r, n, a, g, ws, G, I, rfl⟩ hnx
  have n2 := I.n2
  have n6 := I.n6
  have l4 := I.l4
  refine ⟨Nat.zero_le _, fun t0 nt0 => ⟨by show 1 ≤ sizeLine; decide, fun l0 nl0 => ⟨by show 2 ≤ sizeLine; decide, fun t1 nt1 => ⟨t1, _, rfl, st_of upd_same, rfl, .ref l0, _, rfl, .int 9, _, rfl, rfl, ?_⟩⟩⟩⟩
  have e1 : Ex H (upd (upd (upd H t0 (.tup [])) l0 (.lst [.ref t0])) t1 (.tup [.ref l0, .int 9])) := (Ex.new nt0).trans ((Ex.new nl0).trans (Ex.new nt1))
  have n01 : l0 ≠ t1 := ne_of_none upd_same nt1
  have n0l : t0 ≠ l0 := ne_of_none upd_same nl0
  have n0t : t0 ≠ t1 := ne_of_none (show upd (upd H t0 (.tup [])) l0 (.lst [.ref t0]) t0 = some (.tup []) by rw [upd_ne n0l, upd_same]) nt1
  have hl0 : upd (upd (upd H t0 (.tup [])) l0 (.lst [.ref t0])) t1 (.tup [.ref l0, .int 9]) l0 = some (.lst ([t0].map V.ref)) := by rw [upd_ne n01, upd_same]; rfl
  have hT0 : TT_ (upd (upd (upd H t0 (.tup [])) l0 (.lst [.ref t0])) t1 (.tup [.ref l0, .int 9])) [t0] (rowsL n 0) := by
    refine TT_.nil.snoc (xs := []) ?_
    rw [upd_ne n0t, upd_ne n0l, upd_same]
    rfl
  generalize upd (upd (upd H t0 (.tup [])) l0 (.lst [.ref t0])) t1 (.tup [.ref l0, .int 9]) = H1 at e1 hl0 hT0
  dsimp only
  refine go_seq ?_
  refine ⟨.ref a, rfl, a, rfl, ⟨_, st_of (e1.tup I.ha)⟩, ?_⟩
  refine for_it (walk_tup (K := K) (a := a) (xs := ws.map nI)) (fun i σ' H' => ∃ l ts y7 y8 y9, σ' = [some (.ref sc), some (.ref r), some (nI n), some (.ref a), some (.ref g), some (.ref l), some (.int 9), y7, y8, y9, none, none, none, none, none, none, none, none, none, none, none, none, none, none, none, none] ∧
      Ex H H' ∧ H' l = some (.lst (ts.map V.ref)) ∧ TT_ H' ts (rowsL n i))
    ⟨l0, [t0], none, none, none, rfl, e1, hl0, hT0⟩ (fun i σ' H' _ p => by obtain ⟨_, _, _, _, _, _, e, _⟩ := p; exact st_of (e.tup I.ha)) (fun i x σ' H2 H3 hi p y => ?_) (fun σ' H2 p => ?_)
  · obtain ⟨l, ts, y7, y8, y9, rfl, e2, hl, hT⟩ := p
    obtain ⟨rfl, yv⟩ := y
    have hi4 : i < 4 := by rw [List.length_map] at hi; omega
    have hRl := rows1296 (n := n) (m := i) n6 (by omega)
    have htl : ts.length ≤ 1296 := by rw [hT.1]; exact hRl
    refine go_name ?_
    refine ⟨Nat.zero_le _, fun l2 nl2 => ?_⟩
    have e3 : Ex H3 (upd H3 l2 (.lst [])) := Ex.new nl2
    refine go_name ?_
    dsimp only
    refine go_seq ?_
    refine ⟨.ref l, rfl, l, rfl, ⟨_, sl_of (e3.lst hl)⟩, ?_⟩
    refine for_it (walk_list (K := K) (a := l) (xs := ts.map V.ref)) (fun j σ' H' => ∃ lm us y9, σ' = [some (.ref sc), some (.ref r), some (nI n), some (.ref a), some (.ref g), some (.ref l), some (.int 9), some x, some (.ref lm), y9, none, none, none, none, none, none, none, none, none, none, none, none, none, none, none, none] ∧
        Ex H H' ∧ H' l = some (.lst (ts.map V.ref)) ∧ TT_ H' ts (rowsL n i) ∧ H' lm = some (.lst (us.map V.ref)) ∧ TT_ H' us (((rowsL n i).take j).flatMap fun r => (List.range n).map fun p => r ++ [p]))
      ⟨l2, [], y9, rfl, e2.trans e3, e3.lst hl, TT_.ex hT e3, upd_same, TT_.nil⟩ (fun j σ' H' _ p => by obtain ⟨_, _, _, _, _, h, _⟩ := p; exact sl_of h) (fun j x2 σ' H4 H5 hj p y => ?_) (fun σ' H4 p => ?_)
    · obtain ⟨lm, us, z9, rfl, e4, hl4, hT4, hm4, hU4⟩ := p
      obtain ⟨rfl, yv2⟩ := y
      obtain ⟨c, hc, rfl⟩ := ref_get yv2
      obtain ⟨rr, hrr, hcc⟩ := TT_.at hT4 hc
      have hrm := mem_rowsL.mp (List.mem_of_getElem? hrr)
      refine go_name ?_
      refine go_asg (go_op ⟨_, rfl, gL fun Q1 hQ1 => ?_⟩)
      refine ⟨_, rfl, (n : Int), rfl, by omega, by omega, ?_⟩
      have en : (n : Int).toNat = n := by omega
      rw [en]
      refine lc_gen (fun D k acc H' => ∃ vs, acc = vs.map V.ref ∧ TT_ H' vs ((List.range k).map fun p => rr ++ [p])) (walk_range (lo := 0) (n := n)) (fun _ _ => True.intro) (by omega)
        (fun D _ => ⟨[], rfl, TT_.nil⟩) (fun D k acc x3 H6 H7 hk nD e6 hD hA y Ry Rn k1 _ => ?_) (fun L acc H6 nL e6 hL hlen hA => ?_)
      · obtain ⟨rfl, rfl⟩ := y
        obtain ⟨vs, rfl, hV⟩ := hA
        have ex : (fun i : Nat => V.int (0 + (i : Int))) k = nI k := by show V.int _ = V.int _; rw [Int.zero_add]
        rw [ex]
        have kont : ∀ c2 H8, Ex H7 H8 → H8 c2 = some (.tup ((rr ++ [k]).map nI)) → Ry (.ref c2) H8 := by
          intro c2 H8 e8 h8
          refine k1 _ _ e8 ⟨vs ++ [c2], by rw [List.map_append]; rfl, ?_⟩
          rw [List.range_succ, List.map_append]
          refine TT_.snoc (TT_.wr (TT_.ex hV e8) (e8.lst hD)) ?_
          rw [upd_ne (ne_of h8 (e8.lst hD) (fun z => by cases z))]
          exact h8
        refine ⟨rfl, goYes ?_⟩
        refine ⟨_, rfl, _, rfl, by show 1 ≤ sizeLine; decide, fun q hq => ?_⟩
        have e7 : Ex H7 (upd H7 q (.tup [nI k])) := Ex.new hq
        refine ⟨c, q, rr.map nI, [nI k], rfl, rfl, st_of (e7.tup (e6.tup hcc)), st_of upd_same, sz_ok (by simp only [List.length_map, List.length_cons, List.length_nil]; omega), fun h0 => ?_, fun _ h1 => (by cases h1), fun _ _ p hp => ?_⟩
        · have : rr = [] := List.map_eq_nil_iff.mp h0
          subst this
          exact kont q _ e7 upd_same
        · refine kont p _ (e7.trans (Ex.new hp)) ?_
          rw [upd_same, List.map_append]
          rfl
      · obtain ⟨vs, rfl, hV⟩ := hA
        have hul : us.length ≤ 1296 * 6 := by
          rw [hU4.1, flat_len]
          exact Nat.mul_le_mul (by rw [List.length_take]; omega) n6
        have hvl : vs.length ≤ 6 := by rw [hV.1, List.length_map, List.length_range]; exact n6
        refine hQ1 _ _ ⟨lm, L, _, _, rfl, rfl, e6.lst hm4, hL, sz_ok (by simp only [List.length_map]; omega), fun lm2 nlm2 => ?_⟩
        have e7 : Ex H6 (upd H6 lm2 (.lst (us.map V.ref ++ vs.map V.ref))) := Ex.new nlm2
        have e47 := e6.trans e7
        refine ⟨lm2, us ++ vs, _, rfl, e4.trans e47, e47.lst hl4, TT_.ex hT4 e47, by rw [upd_same, List.map_append], ?_⟩
        rw [rows_part n _ hrr]
        refine ⟨by rw [List.length_append, List.length_append, hU4.1, hV.1], fun q b xs e1 e2 => ?_⟩
        by_cases hq : q < us.length
        · rw [List.getElem?_append_left hq] at e1
          rw [List.getElem?_append_left (by rw [← hU4.1]; exact hq)] at e2
          exact e47.tup (hU4.2 q b xs e1 e2)
        · rw [List.getElem?_append_right (by omega)] at e1
          rw [List.getElem?_append_right (by rw [← hU4.1]; omega), ← hU4.1] at e2
          exact e7.tup (hV.2 _ b xs e1 e2)
    · obtain ⟨lm, us, z9, rfl, e4, hl4, hT4, hm4, hU4⟩ := p
      refine ⟨_, rfl, ?_⟩
      rw [List.length_map, hT.1, List.take_length] at hU4
      exact ⟨lm, us, _, _, _, rfl, e4, hm4, hU4⟩
  · obtain ⟨l, ts, y7, y8, y9, rfl, e2, hl, hT⟩ := p
    rw [List.length_map] at hT
    have hRl := rows1296 (n := n) (m := ws.length) n6 l4
    have htl : ts.length ≤ 1296 := by rw [hT.1]; exact hRl
    dsimp only
    refine go_seq (go_asg (gL fun Q1 hQ1 => ?_))
    refine ⟨.ref l, rfl, l, rfl, ⟨_, sl_of hl⟩, ?_⟩
    refine lc_gen (fun D k acc H' => ∃ fs, acc = fs.map V.ref ∧ TT_ H' fs (((rowsL n ws.length).take k).filter (fitsB n G))) (walk_list (K := K) (a := l) (xs := ts.map V.ref)) (fun H' e => e.sl (sl_of hl)) (by rw [List.length_map]; omega)
      (fun D _ => ⟨[], rfl, TT_.nil⟩) (fun D k acc x3 H6 H7 hk nD e6 hD hA y Ry Rn k1 k2 => ?_) (fun fp acc H6 nL e6 hL hlen hA => ?_)
    · obtain ⟨rfl, yv⟩ := y
      obtain ⟨fs, rfl, hV⟩ := hA
      obtain ⟨c, hc, rfl⟩ := ref_get yv
      have hT7 := TT_.ex hT e6
      obtain ⟨rr, hrr, hcc⟩ := TT_.at hT7 hc
      have hrm := mem_rowsL.mp (List.mem_of_getElem? hrr)
      have e27 := e2.trans e6
      refine ⟨rfl, ?_⟩
      refine ⟨_, rfl, _, rfl, n, c, rr, rfl, .inl (st_of hcc), by rw [hrm.1]; exact I.len, by omega, hrm.2, fun o H8 ho e8 ho8 => ?_⟩
      refine ⟨o, (spots n rr).map Int.ofNat, rfl, sl_of (by rw [ho8, List.map_map]; rfl), fun ns' q9 hperm hsort hq9 => ?_⟩
      obtain ⟨Z, hZ, rfl⟩ := perm_map_ex hperm _ rfl
      have e9 : Ex H8 (upd H8 q9 (.lst ((Z.map Int.ofNat).map V.int))) := Ex.new hq9
      have hq99 : upd H8 q9 (.lst ((Z.map Int.ofNat).map V.int)) q9 = some (.lst (Z.map nI)) := by
        rw [upd_same, List.map_map]
        rfl
      generalize upd H8 q9 (.lst ((Z.map Int.ofNat).map V.int)) = H9 at e9 hq99
      refine ⟨q9, _, rfl, .inl ⟨sl_of hq99, fun z hz => ?_⟩⟩
      have e10 : Ex H9 (upd H9 z (.tup (Z.map nI))) := Ex.new hz
      have e70 := e8.trans (e9.trans e10)
      have hs2 : Z.Pairwise (· ≤ ·) := by
        rw [List.pairwise_map] at hsort
        exact hsort.imp (fun h => Int.ofNat_le.mp h)
      refine ⟨_, rfl, dT Z, dT G, dp_T (st_of upd_same), dp_T (st_of ((e27.trans e70).tup I.hg)), shaped_T _, shaped_T _, ?_⟩
      rw [eqv_T, fits_iff I.rise (by rw [I.glen, hrm.1]) (by rw [hrm.1]; exact I.len) hrm.2 hZ hs2]
      have hfs := filt_snoc (fitsB n G) hrr
      refine ⟨_, rfl, ?_⟩
      refine ite2 (fun hf => ?_) (fun hf => ?_)
      · refine ⟨_, rfl, k1 _ _ e70 ⟨fs ++ [c], by rw [List.map_append]; rfl, ?_⟩⟩
        rw [hfs, if_pos hf]
        refine TT_.snoc (TT_.wr (TT_.ex hV e70) (e70.lst hD)) ?_
        rw [upd_ne (ne_of (e70.tup hcc) (e70.lst hD) (fun z => by cases z))]
        exact e70.tup hcc
      · refine k2 _ e70 ⟨fs, rfl, ?_⟩
        rw [hfs, if_neg hf]
        exact TT_.ex hV e70
    · obtain ⟨fs, rfl, hF⟩ := hA
      rw [List.length_map, hT.1, List.take_length] at hF
      have hF' : TT_ H6 fs (fitsL n ws.length G) := hF
      refine hQ1 _ _ ?_
      have e26 := e2.trans e6
      have hfl : fs.length ≤ 1296 := by
        rw [hF.1]
        exact Nat.le_trans (List.length_filter_le _ _) hRl
      refine go_name ?_
      dsimp only
      refine go_seq ?_
      refine ⟨.ref fp, rfl, fp, rfl, ⟨_, sl_of hL⟩, ?_⟩
      refine for_it (walk_list (K := K) (a := fp) (xs := fs.map V.ref)) (fun i σ' H' => ∃ y9, σ' = [some (.ref sc), some (.ref r), some (nI n), some (.ref a), some (.ref g), some (.ref l), some (nI (((fitsL n ws.length G).take i).foldl (minL ws) 9)), y7, y8, y9, some (.ref fp), none, none, none, none, none, none, none, none, none, none, none, none, none, none, none] ∧ Ex H6 H')
        ⟨_, rfl, Ex.refl _⟩ (fun i σ' H' _ p => by obtain ⟨_, _, e⟩ := p; exact e.sl (sl_of hL)) (fun i x σ' H7 H8 hi p y => ?_) (fun σ' H7 p => ?_)
      · obtain ⟨z9, rfl, e7⟩ := p
        obtain ⟨rfl, yv⟩ := y
        obtain ⟨c, hc, rfl⟩ := ref_get yv
        obtain ⟨rr, hrr, hcc⟩ := TT_.at (TT_.ex hF' e7) hc
        have hrm := mem_rowsL.mp (List.mem_filter.mp (List.mem_of_getElem? hrr)).1
        refine go_name ?_
        refine go_asg (go_cb (go_cons ⟨_, rfl, go_cons (gE fun Q2 hQ2 => ?_)⟩))
        refine ham_rd (mg := mg) (st_of ((e26.trans e7).tup I.ha)) (st_of hcc) hrm.1 l4 (fun H9 e9 => hQ2 _ _ ?_)
        refine ⟨_, _, rfl, ?_⟩
        refine ⟨some (.ref c), ?_, e7.trans e9⟩
        have hm : (fitsL n ws.length G).take (i + 1) = (fitsL n ws.length G).take i ++ [rr] := by rw [List.take_add_one, hrr]; rfl
        rw [hm, List.foldl_append]
        have hv : V.int (if ((ham rr ws : Nat) : Int) < (((fitsL n ws.length G).take i).foldl (minL ws) 9 : Nat) then ((ham rr ws : Nat) : Int) else (((fitsL n ws.length G).take i).foldl (minL ws) 9 : Nat)) = nI (minL ws (((fitsL n ws.length G).take i).foldl (minL ws) 9) rr) := by
          unfold minL nI
          congr 1
          split <;> split <;> omega
        exact congrArg (fun v => [some (V.ref sc), some (V.ref r), some (nI n), some (V.ref a), some (V.ref g), some (V.ref l), some v, y7, y8, some (V.ref c), some (V.ref fp), none, none, none, none, none, none, none, none, none, none, none, none, none, none, none]) hv
      · obtain ⟨z9, rfl, e7⟩ := p
        rw [List.length_map, hF'.1, List.take_length]
        dsimp only
        have e27 := e26.trans e7
        have hL7 := e7.lst hL
        have hF7 := TT_.ex hF' e7
        refine go_seq (go_asg (gL fun Q3 hQ3 => ?_))
        refine ⟨.ref fp, rfl, fp, rfl, ⟨_, sl_of hL7⟩, ?_⟩
        refine lc_gen (fun D k acc H' => ∃ gs, acc = gs.map V.ref ∧ TT_ H' gs (((fitsL n ws.length G).take k).filter fun r => decide (ham r ws = leastL n ws G))) (walk_list (K := K) (a := fp) (xs := fs.map V.ref)) (fun H' e => e.sl (sl_of hL7)) (by rw [List.length_map]; omega)
          (fun D _ => ⟨[], rfl, TT_.nil⟩) (fun D k acc x3 H8 H9 hk nD e8 hD hA y Ry Rn k1 k2 => ?_) (fun gp acc H8 nL8 e8 hL8 hlen8 hA => ?_)
        · obtain ⟨rfl, yv⟩ := y
          obtain ⟨gs, rfl, hV⟩ := hA
          obtain ⟨c, hc, rfl⟩ := ref_get yv
          obtain ⟨rr, hrr, hcc⟩ := TT_.at (TT_.ex hF7 e8) hc
          have hrm := mem_rowsL.mp (List.mem_filter.mp (List.mem_of_getElem? hrr)).1
          have hfs := filt_snoc (fun r => decide (ham r ws = leastL n ws G)) hrr
          refine ⟨rfl, ?_⟩
          refine go_test (go_op (gE fun Q4 hQ4 => ?_))
          refine ham_rd (mg := mg) (st_of ((e27.trans e8).tup I.ha)) (st_of hcc) hrm.1 l4 (fun H10 e10 => hQ4 _ _ ?_)
          refine ⟨_, rfl, rfl, _, rfl, ?_⟩
          have hv : decide (nI (ham rr ws) = nI ((fitsL n ws.length G).foldl (minL ws) 9)) = decide (ham rr ws = leastL n ws G) := by
            rw [decide_eq_decide]
            exact ⟨fun h => nI_inj h, fun h => congrArg nI h⟩
          rw [hv]
          refine ite2 (fun hf => ?_) (fun hf => ?_)
          · refine ⟨_, rfl, k1 _ _ e10 ⟨gs ++ [c], by rw [List.map_append]; rfl, ?_⟩⟩
            rw [hfs, if_pos hf]
            refine TT_.snoc (TT_.wr (TT_.ex hV e10) (e10.lst hD)) ?_
            rw [upd_ne (ne_of (e10.tup hcc) (e10.lst hD) (fun z => by cases z))]
            exact e10.tup hcc
          · refine k2 _ e10 ⟨gs, rfl, ?_⟩
            rw [hfs, if_neg hf]
            exact TT_.ex hV e10
        · obtain ⟨gs, rfl, hV⟩ := hA
          rw [List.length_map, hF'.1, List.take_length] at hV
          refine hQ3 _ _ ?_
          refine go_name ?_
          dsimp only
          refine hnx _ _ ⟨S, r, n, a, g, fp, gp, ws, G, fs, gs, _, _, _, _, I.ex (e27.trans e8), e8.lst hL7, TT_.ex hF7 e8, hL8, hV, rfl⟩
end
end Px
namespace Px
open PySem L2 PyProof.Rows Kx Tx Ma
/-- what the plain laws say of the kept wishes -/
def MathF : Prop := ∀ (n : Nat) (ws G : List Nat), 2 ≤ n → n ≤ 6 → ws.length ≤ 4 → ws.length ≤ n → (∀ x ∈ ws, x < n) → Rise G → (∀ x ∈ G, x < n) → G.length = ws.length →
  KeptBy n ws G (leastL n ws G) ∧ ∀ ks, KeptOf n ws G ks → chg n ws G ks ∈ goodL n ws G
theorem TT_.tail {H : Hp} {a : Addr} {as : List Addr} {x : List Nat} {xss : List (List Nat)} (h : TT_ H (a :: as) (x :: xss)) : H a = some (.tup (x.map nI)) ∧ TT_ H as xss :=
  ⟨h.2 0 a x rfl rfl, by have := h.1; simpa using this, fun i b ys e1 e2 => h.2 (i + 1) b ys (by simpa using e1) (by simpa using e2)⟩
theorem dp_TT {K : PySem.W.Frag} {H : Hp} : ∀ {as : List Addr} {xss : List (List Nat)}, TT_ H as xss → DpAll K H (as.map V.ref) (xss.map dT)
  | [], [], _ => .nil
  | [], _ :: _, h => by have := h.1; simp at this
  | _ :: _, [], h => by have := h.1; simp at this
  | a :: as, x :: xss, h => .cons (dp_T (st_of (TT_.tail h).1)) (dp_TT (TT_.tail h).2)
theorem lay_LT : ∀ xss : List (List Nat), PyData.canLayAll0 (xss.map dT) = true
  | [] => by simp [PyData.canLayAll0]
  | x :: xss => by rw [List.map_cons, PyData.canLayAll0, lay_LT xss, lay_T]; rfl
theorem dep_LT : ∀ xss : List (List Nat), PyData.depthAll (xss.map dT) ≤ 1
  | [] => by simp [PyData.depthAll]
  | x :: xss => by
    rw [List.map_cons, PyData.depthAll, dep_T]
    have := dep_LT xss
    omega
theorem shaped_LT (xss : List (List Nat)) : SeqAt.shaped (.list (xss.map dT)) = true := by
  unfold SeqAt.shaped
  rw [PyData.canLay0, PyData.depth, lay_LT, Bool.true_and]
  have := dep_LT xss
  exact decide_eq_true (by omega)
theorem any_LT (xss : List (List Nat)) (r : List Nat) : ((xss.map dT).any fun z => PyData.eqv z (dT r)) = decide (r ∈ xss) := by
  rw [Bool.eq_iff_iff, List.any_eq_true, decide_eq_true_iff]
  constructor
  · rintro ⟨z, hz, e⟩
    obtain ⟨x, hx, rfl⟩ := List.mem_map.mp hz
    rw [eqv_T, decide_eq_true_iff] at e
    rw [← e]; exact hx
  · intro h
    exact ⟨dT r, List.mem_map.mpr ⟨r, h, rfl⟩, by rw [eqv_T]; exact decide_eq_true rfl⟩
theorem vT {H : Hp} {n d t r : Nat} {ws G R : List Nat} {x : V} (ht : H t = some (.tup [x, .ref r])) (hx : IntBl x) (hr : H r = some (.tup (R.map nI))) (hl : R.length = ws.length) (hn : ∀ y ∈ R, y < n) : ∃ due, ShV H n d ws G (.ref t) due :=
  ⟨_, .inr (.inr (.inr ⟨t, x, r, R, rfl, ht, hx, hr, hl, hn, rfl⟩))⟩
theorem cat_k {K : PySem.W.Frag} {H : Hp} {Q : VK} {a b : Addr} {xs ys : List V} (ha : H a = some (.tup xs)) (hb : H b = some (.tup ys)) (hz : xs.length + ys.length ≤ sizeLine) (k : ∀ c H', Ex H H' → H' c = some (.tup (xs ++ ys)) → Q (.ref c) H') : rCatA K (.ref a) (.ref b) H Q := by
  refine ⟨a, b, xs, ys, rfl, rfl, st_of ha, st_of hb, hz, fun h => ?_, fun _ h => ?_, fun _ _ p hp => k p _ (Ex.new hp) upd_same⟩
  · subst h; exact k b H (Ex.refl H) hb
  · subst h; exact k a H (Ex.refl H) (by rw [List.append_nil]; exact ha)
theorem sl_k {K : PySem.W.Frag} {H : Hp} {Q : VK} {a : Addr} {xs : List V} {lo hi : Option Int} (ha : H a = some (.tup xs)) (k : ∀ c H', Ex H H' → H' c = some (.tup (cutV xs lo hi)) → Q (.ref c) H') : rSlA K (.ref a) lo hi H Q := by
  refine ⟨a, xs, rfl, st_of ha, fun h => k a H (Ex.refl H) ?_, fun _ p hp => k p _ (Ex.new hp) upd_same⟩
  rw [ha]
  unfold cutV
  rw [h.1, h.2, List.drop_zero, Nat.sub_zero, List.take_length]
theorem mem_cutV {xs : List V} {lo hi : Option Int} {v : V} (h : v ∈ cutV xs lo hi) : v ∈ xs := List.mem_of_mem_drop (List.mem_of_mem_take h)
/-- pairs of the least number and a row -/
def PairsOk (n : Nat) (ws : List Nat) (H : Hp) (ts : List Addr) : Prop := ∀ t ∈ ts, ∃ (i : Nat) (r : Addr) (R : List Nat), H t = some (.tup [nI i, .ref r]) ∧ H r = some (.tup (R.map nI)) ∧ R.length = ws.length ∧ ∀ y ∈ R, y < n
theorem PairsOk.ex {n : Nat} {ws : List Nat} {H H' : Hp} {ts : List Addr} (h : PairsOk n ws H ts) (e : Ex H H') : PairsOk n ws H' ts := fun t ht => by
  obtain ⟨i, r, R, h1, h2, h3⟩ := h t ht
  exact ⟨i, r, R, e.tup h1, e.tup h2, h3⟩
theorem PairsOk.wr {n : Nat} {ws : List Nat} {H : Hp} {ts : List Addr} {o : Addr} {ys : List V} {u : HO} (h : PairsOk n ws H ts) (ho : H o = some (.lst ys)) : PairsOk n ws (upd H o u) ts := fun t ht => by
  obtain ⟨i, r, R, h1, h2, h3⟩ := h t ht
  exact ⟨i, r, R, by rw [upd_ne (ne_of h1 ho (fun z => by cases z))]; exact h1, by rw [upd_ne (ne_of h2 ho (fun z => by cases z))]; exact h2, h3⟩
theorem PairsOk.sh {n d : Nat} {ws G : List Nat} {H : Hp} {ts : List Addr} (h : PairsOk n ws H ts) : ∀ v ∈ ts.map V.ref, ∃ due, ShV H n d ws G v due := fun v hv => by
  obtain ⟨t, ht, rfl⟩ := List.mem_map.mp hv
  obtain ⟨i, r, R, h1, h2, h3, h4⟩ := h t ht
  exact vT h1 (.inl ⟨_, rfl⟩) h2 h3 h4
theorem good_mem {n : Nat} {ws G r : List Nat} (h : r ∈ goodL n ws G) : r.length = ws.length ∧ (∀ x ∈ r, x < n) ∧ fitsB n G r = true ∧ ham r ws = leastL n ws G := by
  obtain ⟨h1, h2⟩ := List.mem_filter.mp h
  obtain ⟨h3, h4⟩ := List.mem_filter.mp h1
  obtain ⟨h5, h6⟩ := mem_rowsL.mp h3
  exact ⟨h5, h6, h4, of_decide_eq_true h2⟩
theorem mem_good {n : Nat} {ws G r : List Nat} (h1 : r.length = ws.length) (h2 : ∀ x ∈ r, x < n) (h3 : fitsB n G r = true) (h4 : ham r ws = leastL n ws G) : r ∈ goodL n ws G :=
  List.mem_filter.mpr ⟨List.mem_filter.mpr ⟨mem_rowsL.mpr ⟨h1, h2⟩, h3⟩, decide_eq_true h4⟩
theorem ham_comm : ∀ xs ys : List Nat, ham xs ys = ham ys xs
  | [], [] => rfl
  | [], _ :: _ => rfl
  | _ :: _, [] => rfl
  | x :: xs, y :: ys => by
    rw [ham_cons, ham_cons, ham_comm xs ys]
    by_cases h : x = y
    · rw [if_pos h, if_pos h.symm]
    · rw [if_neg h, if_neg (fun z => h z.symm)]
def StC (K : PySem.W.Frag) (sc P1 P2 P3 P4 : Addr) (σ : L2.St) (H : Hp) : Prop := ∃ (S : Addr × List Int) (r n a g gp vp : Nat) (ws G : List Nat) (gs : List Addr) (vals : List V) (y5 y7 y8 y9 y10 y12 y13 y15 : Option V), LawIn K S P1 P2 P3 P4 r n a g ws G H ∧
  H gp = some (.lst (gs.map V.ref)) ∧ TT_ H gs (goodL n ws G) ∧ H vp = some (.lst vals) ∧ (∀ v ∈ vals, ∃ due, ShV H n (leastL n ws G) ws G v due) ∧ vals.length ≤ 1000 ∧
  σ = [some (.ref sc), some (.ref r), some (nI n), some (.ref a), some (.ref g), y5, some (nI (leastL n ws G)), y7, y8, y9, y10, some (.ref gp), y12, y13, some (.ref vp), y15, none, none, none, none, none, none, none, none, none, none]
end Px
namespace Px
open PySem L2 PyProof.Rows Kx Tx Ma
theorem go_np {σ : L2.St} {H : Hp} {Q : Option Int → Hp → Prop} (h : Q none H) : tNoPart σ H Q := h
section
variable {P : Program} {w : World} {K : PySem.W.Frag} {mg : Str → Option Value} {base : Heap} {f : Addr} {cdv : Value} {A : Around} {outer : List Env} {s : Shared} {H0 : Hp} {E : XK}
theorem segC {sc P1 P2 P3 P4 : Addr} (M : MathF) (T : Blt mg) (hr : Room 9 (A.deeper (envOfC "law" (defScope s_law) s.heap.objs.size f cdv)))
    (C_fewest_changes : Ca P w K mg base 9 "fewest_changes" (sp_fewest K P1 P2 P3)) :
    Seg (lawX P w K mg base f cdv A outer s H0 E) 9 6 (StB K sc P1 P2 P3 P4) (StC K sc P1 P2 P3 P4) := by
  refine ⟨fun u => tSeq _ (tSeq _ (tSeq _ (tSeq _ (tSeq _ (tSeq _ u))))), fun u hu => pss_cons (ps_set (i := 12) sc_law.nd rfl (by first | exact Or.inl rfl | exact Or.inr rfl) (pe_ca C_fewest_changes hr (by decide) (by rfl) (pa_cons (pv 2) (pa_cons (pv 3) (pa_cons (pv 4) pa_nil))))) (pss_cons (ps_if (PW.pt (pw_or (pt_not (pt_val (pe_callB (Rx.isiK K) (by rfl) T.isinstance_ (by decide +kernel) (pa_cons (pv 12) (pa_cons (pe_bltn (v := .ty "tuple") (by rfl) T.tuple_ (by decide +kernel) rfl) pa_nil))))) (pw_or (pt_cmpR op_ne (pe_callB (Rx.lenK K) (by rfl) T.len_ (by decide +kernel) (pa_cons (pv 12) pa_nil)) pe_int (nomark _)) (pw_or (pt_cmpR op_ne (pe_ix (Rx.ixT K) (pv 12) pe_int (fun _ _ => rfl)) (pv 6) (nomark _)) (pw_or1 (pt_cmpR (Rx.niD K (hu65 hr)) (pe_ix (Rx.ixT K) (pv 12) pe_int (fun _ _ => rfl)) (pv 11) (by rfl)))))))
        (pss_one (ps_ret pe_bl)) pss_nil) (pss_cons (ps_set (i := 13) sc_law.nd rfl (by first | exact Or.inl rfl | exact Or.inr rfl) (pe_ix (Rx.ixT K) (pv 12) pe_int (fun _ _ => rfl))) (pss_cons (ps_set (i := 14) sc_law.nd rfl (by first | exact Or.inl rfl | exact Or.inr rfl) (pe_lst (pa_cons (pv 12) (pa_cons (pe_callTy (Rx.lstK K) (by rfl) T.list_ (by decide +kernel) (pa_cons (pv 12) pa_nil)) (pa_cons (pe_tup (pa_cons (pv 6) (pa_cons (pe_callTy (Rx.lstK K) (by rfl) T.list_ (by decide +kernel) (pa_cons (pv 13) pa_nil)) pa_nil))) (pa_cons (pe_tup (pa_cons (pe_op op_add (pv 6) pe_int) (pa_cons (pv 13) pa_nil))) (pa_cons (pe_tup (pa_cons (pv 6) (pa_cons (Rv.pe_revT K (pv 13)) pa_nil))) (pa_cons (pe_tup (pa_cons (pv 6) (pa_cons (pv 4) pa_nil))) (pa_cons (pe_tup (pa_cons (pv 6) (pa_cons (pv 3) pa_nil))) (pa_cons pe_non (pa_cons pe_int (pa_cons (pe_tup (pa_cons pe_bl (pa_cons (pv 13) pa_nil))) pa_nil)))))))))))) (pss_cons (ps_set (i := 14) sc_law.nd rfl (by first | exact Or.inl rfl | exact Or.inr rfl) (pe_op op_cat (pv 14) (pe_lc (own := [("_law_some", 9)]) (by rfl) sc_law.nd (Rx.piL K (pe_slice (Rx.slL K) (pe_op op_cat (pv 11) (pv 10)) po_none (po_some pe_int))) (blkOk_by (own := [("_law_some", 9)]) (by rfl)) (fun _ _ _ _ _ => (pg_name (i := 9) sc_law.nd rfl (by first | exact Or.inl rfl | exact Or.inr rfl))) (fun _ _ _ _ _ => pts_nil) (fun _ _ _ _ _ => (pe_tup (pa_cons (pv 6) (pa_cons (pv 9) pa_nil))))))) (pss_cons (ps_for PassesOwn.never rfl (pi_range1 (by rfl) T.range_ (pa_cons (pe_callB (Rx.lenK K) (by rfl) T.len_ (by decide +kernel) (pa_cons (pv 3) pa_nil)) pa_nil)) (pg_name (i := 15) sc_law.nd rfl (by first | exact Or.inl rfl | exact Or.inr rfl))
        (pss_one (ps_set (i := 14) sc_law.nd rfl (by first | exact Or.inl rfl | exact Or.inr rfl) (pe_op op_cat (pv 14) (pe_lc (own := [("_law_place", 25)]) (by rfl) sc_law.nd (pi_range1 (by rfl) T.range_ (pa_cons (pv 2) pa_nil)) (blkOk_by (own := [("_law_place", 25)]) (by rfl)) (fun _ _ _ _ _ => (pg_name (i := 25) sc_law.nd rfl (by first | exact Or.inl rfl | exact Or.inr rfl))) (fun _ _ _ _ _ => pts_nil) (fun _ _ _ _ _ => (pe_tup (pa_cons (pv 6) (pa_cons (pe_op (Rx.catA K) (pe_op (Rx.catA K) (pe_slice (Rx.slA K) (pv 13) po_none (po_some (pv 15))) (pe_tup (pa_cons (pv 25) pa_nil))) (pe_slice (Rx.slA K) (pv 13) (po_some (pe_op op_add (pv 15) pe_int)) po_none)) pa_nil))))))))) hu))))), ?_⟩
  rintro u D σ H hrt ⟨S, r, n, a, g, fp, gp, ws, G, fs, gs, y5, y7, y8, y9, I, hF, hFT, hG, hGT, rfl⟩ hnx
  have n2 := I.n2
  have n6 := I.n6
  have l4 := I.l4
  obtain ⟨hK, hM⟩ := M n ws G n2 n6 l4 I.len I.ltW I.rise I.ltG I.glen
  have hfit : Fit n (leastL n ws G) ws G := ⟨n2, by omega, I.rise, I.ltG, I.len, I.ltW, I.glen, hK⟩
  refine ⟨_, rfl, _, rfl, _, rfl, n, leastL n ws G, a, g, ws, G, rfl, .inl I.ha, .inl I.hg, I.t1, I.t2, I.t3, hfit, fun ks hks p rb H1 hp hrb e1 hrb1 hp1 => ?_⟩
  have hgm := hM ks hks
  generalize chg n ws G ks = R0 at hrb1 hgm
  obtain ⟨hR1, hR2, hR3, hR4⟩ := good_mem hgm
  refine go_name ?_
  dsimp only
  refine ⟨_, rfl, _, _, _, _, true, rfl, .ty "tuple", .base (.tup hp1), kit_ty (by decide +kernel), true, rfl, iteF ?_⟩
  refine ⟨_, rfl, p, _, rfl, .inr (st_of hp1), rfl, _, rfl, iteF ?_⟩
  refine ⟨_, rfl, p, _, (0 : Nat), nI (leastL n ws G), rfl, rfl, st_of hp1, rfl, _, rfl, rfl, _, rfl, iteNS rfl ?_⟩
  refine ⟨_, rfl, p, _, (1 : Nat), .ref rb, rfl, rfl, st_of hp1, rfl, _, rfl, dT R0, (goodL n ws G).map dT, dp_T (st_of hrb1), .lst (sl_of (e1.lst hG)) (dp_TT (TT_.ex hGT e1)), shaped_T _, shaped_LT _, ?_⟩
  rw [any_LT, decide_eq_true hgm]
  refine ⟨false, rfl, iteF ?_⟩
  refine go_nxt ?_
  dsimp only
  refine ⟨_, rfl, p, _, (1 : Nat), .ref rb, rfl, rfl, st_of hp1, rfl, ?_⟩
  refine go_name ?_
  dsimp only
  generalize hd : leastL n ws G = d at hp1 hfit
  have ok2 : ∀ x y : V, [x, y].length ≤ sizeLine := fun x y => by show 2 ≤ sizeLine; decide
  refine ⟨_, rfl, _, rfl, p, _, rfl, .inr (st_of hp1), fun l1 hl1 => ?_⟩
  have e2 : Ex H1 (upd H1 l1 (.lst [nI d, .ref rb])) := Ex.new hl1
  have hl1' : upd H1 l1 (.lst [nI d, .ref rb]) l1 = some (.lst [nI d, .ref rb]) := upd_same
  generalize upd H1 l1 (.lst [nI d, .ref rb]) = H2 at e2 hl1'
  refine ⟨_, rfl, _, rfl, rb, _, rfl, .inr (st_of (e2.tup hrb1)), fun l2 hl2 => ?_⟩
  have e3 : Ex H2 (upd H2 l2 (.lst (R0.map nI))) := Ex.new hl2
  have hl2' : upd H2 l2 (.lst (R0.map nI)) l2 = some (.lst (R0.map nI)) := upd_same
  generalize upd H2 l2 (.lst (R0.map nI)) = H3 at e3 hl2'
  refine ⟨ok2 _ _, fun t1 ht1 => ?_⟩
  have e4 : Ex H3 (upd H3 t1 (.tup [nI d, .ref l2])) := Ex.new ht1
  have ht1' : upd H3 t1 (.tup [nI d, .ref l2]) t1 = some (.tup [nI d, .ref l2]) := upd_same
  generalize upd H3 t1 (.tup [nI d, .ref l2]) = H4 at e4 ht1'
  refine ⟨_, rfl, _, _, rfl, rfl, _, rfl, ok2 _ _, fun t2 ht2 => ?_⟩
  have e5 : Ex H4 (upd H4 t2 (.tup [V.int ((d : Int) + 1), .ref rb])) := Ex.new ht2
  have ht2' : upd H4 t2 (.tup [V.int ((d : Int) + 1), .ref rb]) t2 = some (.tup [V.int ((d : Int) + 1), .ref rb]) := upd_same
  dsimp only
  generalize upd H4 t2 (.tup [V.int ((d : Int) + 1), .ref rb]) = H5 at e5 ht2'
  have e25 := e2.trans (e3.trans (e4.trans e5))
  refine ⟨_, rfl, _, rfl, rb, _, rfl, st_of (e25.tup hrb1), fun rv hrv => ?_⟩
  have e6 : Ex H5 (upd H5 rv (.tup (R0.map nI).reverse)) := Ex.new hrv
  have hrv' : upd H5 rv (.tup (R0.map nI).reverse) rv = some (.tup (R0.reverse.map nI)) := by rw [upd_same, List.map_reverse]
  generalize upd H5 rv (.tup (R0.map nI).reverse) = H6 at e6 hrv'
  refine ⟨ok2 _ _, fun t3 ht3 => ?_⟩
  have e7 : Ex H6 (upd H6 t3 (.tup [nI d, .ref rv])) := Ex.new ht3
  have ht3' : upd H6 t3 (.tup [nI d, .ref rv]) t3 = some (.tup [nI d, .ref rv]) := upd_same
  generalize upd H6 t3 (.tup [nI d, .ref rv]) = H7 at e7 ht3'
  refine ⟨_, rfl, _, rfl, ok2 _ _, fun t4 ht4 => ?_⟩
  have e8 : Ex H7 (upd H7 t4 (.tup [nI d, .ref g])) := Ex.new ht4
  have ht4' : upd H7 t4 (.tup [nI d, .ref g]) t4 = some (.tup [nI d, .ref g]) := upd_same
  generalize upd H7 t4 (.tup [nI d, .ref g]) = H8 at e8 ht4'
  refine ⟨_, rfl, _, rfl, ok2 _ _, fun t5 ht5 => ?_⟩
  have e9 : Ex H8 (upd H8 t5 (.tup [nI d, .ref a])) := Ex.new ht5
  have ht5' : upd H8 t5 (.tup [nI d, .ref a]) t5 = some (.tup [nI d, .ref a]) := upd_same
  generalize upd H8 t5 (.tup [nI d, .ref a]) = H9 at e9 ht5'
  refine ⟨_, rfl, ok2 _ _, fun t6 ht6 => ?_⟩
  have e10 : Ex H9 (upd H9 t6 (.tup [.bl true, .ref rb])) := Ex.new ht6
  have ht6' : upd H9 t6 (.tup [.bl true, .ref rb]) t6 = some (.tup [.bl true, .ref rb]) := upd_same
  generalize upd H9 t6 (.tup [.bl true, .ref rb]) = H10 at e10 ht6'
  refine ⟨by show 10 ≤ sizeLine; decide, fun vp hvp => ?_⟩
  have e11 := Ex.new (o := .lst [.ref p, .ref l1, .ref t1, .ref t2, .ref t3, .ref t4, .ref t5, .non, .int 3, .ref t6]) hvp
  have hvp' : upd H10 vp (.lst [.ref p, .ref l1, .ref t1, .ref t2, .ref t3, .ref t4, .ref t5, .non, .int 3, .ref t6]) vp = some (.lst [.ref p, .ref l1, .ref t1, .ref t2, .ref t3, .ref t4, .ref t5, .non, .int 3, .ref t6]) := upd_same
  generalize upd H10 vp (.lst [.ref p, .ref l1, .ref t1, .ref t2, .ref t3, .ref t4, .ref t5, .non, .int 3, .ref t6]) = H11 at e11 hvp'
  have f10 := e10.trans e11
  have f9 := e9.trans f10
  have f8 := e8.trans f9
  have f7 := e7.trans f8
  have f6 := e6.trans f7
  have f5 := e5.trans f6
  have f4 := e4.trans f5
  have f3 := e3.trans f4
  have f2 := e2.trans f3
  have f1 := e1.trans f2
  have hv0 : ∀ v ∈ [V.ref p, .ref l1, .ref t1, .ref t2, .ref t3, .ref t4, .ref t5, .non, .int 3, .ref t6], ∃ due, ShV H11 n d ws G v due := by
    intro v hv
    simp only [List.mem_cons, List.mem_nil_iff, or_false] at hv
    have hrb' := f2.tup hrb1
    rcases hv with rfl | rfl | rfl | rfl | rfl | rfl | rfl | rfl | rfl | rfl
    · exact vT (f2.tup hp1) (.inl ⟨_, rfl⟩) hrb' hR1 hR2
    · exact ⟨_, .inr (.inl ⟨l1, _, rfl, f3.lst hl1', rfl⟩)⟩
    · exact ⟨_, .inr (.inr (.inl ⟨t1, _, l2, _, rfl, f5.tup ht1', .inl ⟨_, rfl⟩, f4.lst hl2', rfl⟩))⟩
    · exact vT (f6.tup ht2') (.inl ⟨_, rfl⟩) hrb' hR1 hR2
    · exact vT (f8.tup ht3') (.inl ⟨_, rfl⟩) (f7.tup hrv') (by rw [List.length_reverse]; exact hR1) (fun y hy => hR2 y (List.mem_reverse.mp hy))
    · exact vT (f9.tup ht4') (.inl ⟨_, rfl⟩) (f1.tup I.hg) I.glen I.ltG
    · exact vT (f10.tup ht5') (.inl ⟨_, rfl⟩) (f1.tup I.ha) rfl I.ltW
    · exact ⟨_, .inl ⟨.inl rfl, rfl⟩⟩
    · exact ⟨_, .inl ⟨.inr ⟨3, rfl⟩, rfl⟩⟩
    · exact vT (e11.tup ht6') (.inr ⟨_, rfl⟩) hrb' hR1 hR2
  have hlv : [V.ref p, .ref l1, .ref t1, .ref t2, .ref t3, .ref t4, .ref t5, .non, .int 3, .ref t6].length ≤ 10 := Nat.le_refl _
  have hrb11 := f2.tup hrb1
  generalize [V.ref p, .ref l1, .ref t1, .ref t2, .ref t3, .ref t4, .ref t5, .non, .int 3, .ref t6] = vals at hvp' hv0 hlv
  refine go_name ?_
  have hF11 := f1.lst hF
  have hG11 := f1.lst hG
  have hFT11 := TT_.ex hFT f1
  have hGT11 := TT_.ex hGT f1
  have hfl : fs.length ≤ 1296 := by rw [hFT.1]; exact Nat.le_trans (List.length_filter_le _ _) (rows1296 n6 l4)
  have hgl : gs.length ≤ 1296 := by rw [hGT.1]; exact Nat.le_trans (List.length_filter_le _ _) (Nat.le_trans (List.length_filter_le _ _) (rows1296 n6 l4))
  refine go_seq (go_asg (go_op ⟨_, rfl, gL fun Q1 hQ1 => ?_⟩))
  refine ⟨_, rfl, _, rfl, gp, fp, _, _, rfl, rfl, hG11, hF11, sz_ok (by simp only [List.length_map]; omega), fun c1 hc1 => ?_⟩
  have e12 : Ex H11 (upd H11 c1 (.lst (gs.map V.ref ++ fs.map V.ref))) := Ex.new hc1
  refine ⟨(20 : Int), rfl, c1, _, rfl, sl_of upd_same, fun c2 hc2 => ⟨c2, rfl, ⟨_, sl_of upd_same⟩, ?_⟩⟩
  have e13 := e12.trans (Ex.new (o := .lst (cutV (gs.map V.ref ++ fs.map V.ref) none (some 20))) hc2)
  have hc2' : upd (upd H11 c1 (.lst (gs.map V.ref ++ fs.map V.ref))) c2 (.lst (cutV (gs.map V.ref ++ fs.map V.ref) none (some 20))) c2 = some (.lst (cutV (gs.map V.ref ++ fs.map V.ref) none (some 20))) := upd_same
  have hcl : (cutV (gs.map V.ref ++ fs.map V.ref) none (some 20)).length ≤ 20 := by
    unfold cutV
    rw [List.length_take, show (some 20 : Option Int) = some ((20 : Nat) : Int) from rfl, HT.sIx_nat, HT.sIx_none]
    omega
  have hcm : ∀ v ∈ cutV (gs.map V.ref ++ fs.map V.ref) none (some 20), ∃ (c : Addr) (R : List Nat), v = .ref c ∧ H11 c = some (.tup (R.map nI)) ∧ R.length = ws.length ∧ ∀ y ∈ R, y < n := by
    intro v hv
    rcases List.mem_append.mp (mem_cutV hv) with hv | hv
    · obtain ⟨c, hc, rfl⟩ := List.mem_map.mp hv
      obtain ⟨i, hi, rfl⟩ := List.mem_iff_getElem.mp hc
      have hge := List.getElem?_eq_getElem hi
      have hi2 : i < (goodL n ws G).length := by rw [← hGT.1]; exact hi
      have hgm2 := good_mem (List.getElem_mem hi2)
      exact ⟨_, _, rfl, hGT11.2 i _ _ hge (List.getElem?_eq_getElem hi2), hgm2.1, hgm2.2.1⟩
    · obtain ⟨c, hc, rfl⟩ := List.mem_map.mp hv
      obtain ⟨i, hi, rfl⟩ := List.mem_iff_getElem.mp hc
      have hge := List.getElem?_eq_getElem hi
      have hi2 : i < (fitsL n ws.length G).length := by rw [← hFT.1]; exact hi
      have hgm2 := mem_rowsL.mp (List.mem_filter.mp (List.getElem_mem hi2)).1
      exact ⟨_, _, rfl, hFT11.2 i _ _ hge (List.getElem?_eq_getElem hi2), hgm2.1, hgm2.2⟩
  generalize upd (upd H11 c1 (.lst (gs.map V.ref ++ fs.map V.ref))) c2 (.lst (cutV (gs.map V.ref ++ fs.map V.ref) none (some 20))) = H13 at e13 hc2'
  generalize cutV (gs.map V.ref ++ fs.map V.ref) none (some 20) = cut at hc2' hcl hcm
  refine lc_gen (fun D k acc H' => ∃ ts : List Addr, acc = ts.map V.ref ∧ PairsOk n ws H' ts) (walk_list (K := K) (a := c2) (xs := cut)) (fun H' e => e.sl (sl_of hc2')) (by omega)
    (fun D _ => ⟨[], rfl, fun t h => by simp at h⟩) (fun D k acc x3 H14 H15 hk nD e14 hD hA y Ry Rn k1 _ => ?_) (fun L acc H14 nL e14 hL hlen hA => ?_)
  · obtain ⟨rfl, yv⟩ := y
    obtain ⟨ts, rfl, hP⟩ := hA
    obtain ⟨c, R, rfl, hc, hR5, hR6⟩ := hcm _ (List.mem_of_getElem? yv)
    refine ⟨rfl, goYes ⟨_, rfl, _, rfl, ok2 _ _, fun t ht => ?_⟩⟩
    have et : Ex H15 (upd H15 t (.tup [nI d, .ref c])) := Ex.new ht
    refine k1 _ _ et ⟨ts ++ [t], by rw [List.map_append]; rfl, ?_⟩
    refine PairsOk.wr (ys := ts.map V.ref) ?_ (et.lst hD)
    intro z hz
    rcases List.mem_append.mp hz with hz | hz
    · exact (hP.ex et) z hz
    · rw [List.mem_singleton] at hz
      subst hz
      exact ⟨d, c, R, upd_same, (e13.trans (e14.trans et)).tup hc, hR5, hR6⟩
  obtain ⟨ts, rfl, hP⟩ := hA
  have e15 := e13.trans e14
  have hlen2 : ts.length ≤ 20 := by
    rw [List.length_map] at hlen
    omega
  refine hQ1 _ _ ⟨vp, L, _, _, rfl, rfl, e15.lst hvp', hL, sz_ok (by simp only [List.length_map]; omega), fun vq hvq => ?_⟩
  have e16 : Ex H14 (upd H14 vq (.lst (vals ++ ts.map V.ref))) := Ex.new hvq
  have e17 := e15.trans e16
  have hvq' : upd H14 vq (.lst (vals ++ ts.map V.ref)) vq = some (.lst (vals ++ ts.map V.ref)) := upd_same
  generalize upd H14 vq (.lst (vals ++ ts.map V.ref)) = H16 at e16 e17 hvq'
  have hv1 : ∀ v ∈ vals ++ ts.map V.ref, ∃ due, ShV H16 n d ws G v due := by
    intro v hv
    rcases List.mem_append.mp hv with hv | hv
    · obtain ⟨due, h⟩ := hv0 v hv
      exact ⟨due, h.ex e17⟩
    · exact (hP.ex e16).sh v hv
  have hlv1 : (vals ++ ts.map V.ref).length ≤ 30 := by rw [List.length_append, List.length_map]; omega
  generalize vals ++ ts.map V.ref = vals1 at hvq' hv1 hlv1
  refine go_name ?_
  dsimp only
  have f116 := f1.trans e17
  have hrb16 := e17.tup hrb11
  refine go_seq ?_
  refine ⟨_, rfl, a, _, rfl, .inr (st_of (f116.tup I.ha)), _, rfl, by simp only [List.length_map]; omega, by simp only [List.length_map]; omega, ?_⟩
  have eN : (((ws.map nI).length : Nat) : Int).toNat = ws.length := by rw [List.length_map]; omega
  rw [eN]
  refine for_it (walk_range (lo := 0) (n := ws.length)) (fun i σ' H' => ∃ vp vals y15, σ' = [some (.ref sc), some (.ref r), some (nI n), some (.ref a), some (.ref g), y5, some (nI d), y7, y8, y9, some (.ref fp), some (.ref gp), some (.ref p), some (.ref rb), some (.ref vp), y15, none, none, none, none, none, none, none, none, none, none] ∧
      Ex H16 H' ∧ H' vp = some (.lst vals) ∧ (∀ v ∈ vals, ∃ due, ShV H' n d ws G v due) ∧ vals.length ≤ 30 + i * 6)
    ⟨vq, vals1, none, rfl, Ex.refl _, hvq', hv1, by omega⟩ (fun _ _ _ _ _ => True.intro) (fun i x σ' H17 H18 hi pp y => ?_) (fun σ' H17 pp => ?_)
  · obtain ⟨vw, vals2, y15, rfl, e18, hvw, hv2, hlv2⟩ := pp
    obtain ⟨rfl, rfl⟩ := y
    have ex : (fun i : Nat => V.int (0 + (i : Int))) i = nI i := by show V.int _ = V.int _; rw [Int.zero_add]
    rw [ex]
    refine go_name ?_
    refine go_asg (go_op ⟨_, rfl, gL fun Q2 hQ2 => ?_⟩)
    refine ⟨_, rfl, (n : Int), rfl, by omega, by omega, ?_⟩
    have en : (n : Int).toNat = n := by omega
    rw [en]
    refine lc_gen (fun D k acc H' => ∃ ts : List Addr, acc = ts.map V.ref ∧ PairsOk n ws H' ts) (walk_range (lo := 0) (n := n)) (fun _ _ => True.intro) (by omega)
      (fun D _ => ⟨[], rfl, fun t h => by simp at h⟩) (fun D k acc x3 H19 H20 hk nD e19 hD hA y Ry Rn k1 _ => ?_) (fun L2 acc H19 nL2 e19 hL2 hlen5 hA => ?_)
    · obtain ⟨rfl, rfl⟩ := y
      obtain ⟨ts2, rfl, hP2⟩ := hA
      have ex2 : (fun i : Nat => V.int (0 + (i : Int))) k = nI k := by show V.int _ = V.int _; rw [Int.zero_add]
      rw [ex2]
      have hrb20 := (e18.trans e19).tup hrb16
      refine ⟨rfl, goYes ?_⟩
      have hi0 : i + 1 ≤ R0.length := by omega
      have hz4 : ∀ (xs ys : List Nat), xs.length ≤ 10 → ys.length ≤ 10 → (xs.map nI).length + (ys.map nI).length ≤ sizeLine := fun xs ys h1 h2 => sz_ok (by rw [List.length_map, List.length_map]; omega)
      have hR10 : R0.length ≤ 4 := by omega
      refine ⟨_, rfl, _, rfl, _, rfl, (i : Int), rfl, sl_k hrb20 (fun c3 H21 e21 h21 => ?_)⟩
      rw [cut_lo (by omega)] at h21
      refine ⟨_, rfl, by show 1 ≤ sizeLine; decide, fun q1 hq1 => ?_⟩
      have e22 : Ex H21 (upd H21 q1 (.tup [nI k])) := Ex.new hq1
      have h22 : upd H21 q1 (.tup [nI k]) q1 = some (.tup ([k].map nI)) := upd_same
      refine cat_k (e22.tup h21) h22 (hz4 _ _ (by rw [List.length_take]; omega) (by simp)) (fun c4 H23 e23 h23 => ?_)
      rw [← List.map_append] at h23
      have e203 := e21.trans (e22.trans e23)
      refine ⟨_, rfl, _, rfl, _, _, rfl, rfl, (i : Int) + 1, rfl, go_np (sl_k (e203.tup hrb20) (fun c5 H24 e24 h24 => ?_))⟩
      rw [cut_hi hi0] at h24
      refine cat_k (e24.tup h23) h24 (hz4 _ _ (by simp only [List.length_append, List.length_take, List.length_cons, List.length_nil]; omega) (by rw [List.length_drop]; omega)) (fun c6 H25 e25 h25 => ?_)
      rw [← List.map_append] at h25
      refine ⟨ok2 _ _, fun t ht => ?_⟩
      have e205 := e203.trans (e24.trans e25)
      have et := e205.trans (Ex.new (o := .tup [nI d, .ref c6]) ht)
      refine k1 _ _ et ⟨ts2 ++ [t], by rw [List.map_append]; rfl, ?_⟩
      refine PairsOk.wr (ys := ts2.map V.ref) ?_ (et.lst hD)
      intro z hz
      rcases List.mem_append.mp hz with hz | hz
      · exact (hP2.ex et) z hz
      · rw [List.mem_singleton] at hz
        subst hz
        refine ⟨d, c6, _, upd_same, (Ex.new ht).tup h25, by simp only [List.length_append, List.length_take, List.length_drop, List.length_cons, List.length_nil]; omega, fun y hy => ?_⟩
        rcases List.mem_append.mp hy with hy | hy
        · rcases List.mem_append.mp hy with hy | hy
          · exact hR2 y (List.mem_of_mem_take hy)
          · rw [List.mem_singleton] at hy; rw [hy]; exact hk
        · exact hR2 y (List.mem_of_mem_drop hy)
    · obtain ⟨ts2, rfl, hP2⟩ := hA
      have hlen6 : ts2.length ≤ 6 := by
        rw [List.length_map] at hlen5
        omega
      have hi4 : i < 4 := by omega
      refine hQ2 _ _ ⟨vw, L2, _, _, rfl, rfl, e19.lst hvw, hL2, sz_ok (by simp only [List.length_map]; omega), fun vx hvx => ?_⟩
      have e20 : Ex H19 (upd H19 vx (.lst (vals2 ++ ts2.map V.ref))) := Ex.new hvx
      have e22 := e19.trans e20
      refine ⟨vx, vals2 ++ ts2.map V.ref, _, rfl, e18.trans e22, upd_same, fun v hv => ?_, by rw [List.length_append, List.length_map, Nat.succ_mul]; omega⟩
      rcases List.mem_append.mp hv with hv | hv
      · obtain ⟨due, h⟩ := hv2 v hv
        exact ⟨due, h.ex e22⟩
      · exact (hP2.ex e20).sh v hv
  · obtain ⟨vw, vals2, y15, rfl, e18, hvw, hv2, hlv2⟩ := pp
    have e1e := f116.trans e18
    subst hd
    exact hnx _ _ ⟨S, r, n, a, g, gp, vw, ws, G, gs, vals2, _, _, _, _, _, _, _, _, I.ex e1e, e1e.lst hG, TT_.ex hGT e1e, hvw, hv2, by omega, rfl⟩
end
end Px
namespace Px
open PySem L2 PyProof.Rows Kx Tx Ma
def StD (K : PySem.W.Frag) (sc P1 P2 P3 P4 : Addr) (σ : L2.St) (H : Hp) : Prop := ∃ (S : Addr × List Int) (r n a g : Nat) (ws G : List Nat) (y5 y6 y7 y8 y9 y10 y11 y12 y13 y14 y15 y16 y17 : Option V), LawIn K S P1 P2 P3 P4 r n a g ws G H ∧
  σ = [some (.ref sc), some (.ref r), some (nI n), some (.ref a), some (.ref g), y5, y6, y7, y8, y9, y10, y11, y12, y13, y14, y15, y16, y17, none, none, none, none, none, none, none, none]
theorem go_and {σ : L2.St} {H : Hp} {Q : VK} {c : Bool} {R : VK} (h : if c = true then R (.bl c) H else Q (.bl c) H) : ∃ b, V.bl c = .bl b ∧ (if b = true then R (.bl c) H else Q (.bl c) H) := ⟨c, rfl, h⟩
section
variable {P : Program} {w : World} {K : PySem.W.Frag} {mg : Str → Option Value} {base : Heap} {f : Addr} {cdv : Value} {A : Around} {outer : List Env} {s : Shared} {H0 : Hp} {E : XK}
theorem fin_if {S : Addr × List Int} {P1 P2 P3 P4 sc r n d a g : Nat} {ws G : List Nat} {v : V} {due : Bool} {D : Ends} {H : Hp} {y5 y6 y7 y8 y9 y10 y11 y12 y13 y14 y15 : Option V} (I : LawIn K S P1 P2 P3 P4 r n a g ws G H) (F : Fit n d ws G) (hv : ShV H n d ws G v due)
    (k : ∀ H', Ex H H' → D.nx [some (.ref sc), some (.ref r), some (nI n), some (.ref a), some (.ref g), y5, y6, y7, y8, y9, y10, y11, y12, y13, y14, y15, some v, some (.bl due), none, none, none, none, none, none, none, none] H') :
    tIfS (tNot (tB (tCall sp_alike0 [] E0 (tCons (tCall (sp_shows K P1 P2 P3 P4) [] E0 (tCons (tVar 2) (tCons (tVar 3) (tCons (tVar 4) (tCons (tVar 16) tNil))))) (tCons (tVar 17) tNil))))) (tRet (tC (.bl false))) tNext D
      [some (.ref sc), some (.ref r), some (nI n), some (.ref a), some (.ref g), y5, y6, y7, y8, y9, y10, y11, y12, y13, y14, y15, some v, some (.bl due), none, none, none, none, none, none, none, none] H := by
  refine ⟨_, rfl, _, rfl, _, rfl, _, rfl, n, d, a, g, ws, G, v, due, rfl, .inl I.ha, .inl I.hg, I.t1, I.t2, I.t3, I.t4, F, hv, fun H2 e2 => ?_⟩
  exact ⟨_, rfl, .bl due, rfl, .inr ⟨_, rfl⟩, fun H3 e3 => ⟨true, rfl, iteF (k H3 (e2.trans e3))⟩⟩
theorem segD {sc P1 P2 P3 P4 : Addr} (M : MathF) (T : Blt mg) (hr : Room 9 (A.deeper (envOfC "law" (defScope s_law) s.heap.objs.size f cdv)))
    (C_alike0 : Ca P w K mg base 1 "_law_alike" sp_alike0) (C_shows_changes : Ca P w K mg base 9 "shows_changes" (sp_shows K P1 P2 P3 P4)) :
    Seg (lawX P w K mg base f cdv A outer s H0 E) 15 1 (StC K sc P1 P2 P3 P4) (StD K sc P1 P2 P3 P4) := by
  refine ⟨fun u => tSeq _ u, fun u hu => pss_cons (ps_for PassesOwn.never rfl (Rx.piL K (pv 14)) (pg_name (i := 16) sc_law.nd rfl (by first | exact Or.inl rfl | exact Or.inr rfl))
        (pss_cons (ps_set (i := 17) sc_law.nd rfl (by first | exact Or.inl rfl | exact Or.inr rfl) (pe_and (pe_callB (Rx.isiK K) (by rfl) T.isinstance_ (by decide +kernel) (pa_cons (pv 16) (pa_cons (pe_bltn (v := .ty "tuple") (by rfl) T.tuple_ (by decide +kernel) rfl) pa_nil))) (pe_and (pe_cmpR op_eq (pe_callB (Rx.lenK K) (by rfl) T.len_ (by decide +kernel) (pa_cons (pv 16) pa_nil)) pe_int (nomark _)) (pe_and (pe_callB (Rx.isiK K) (by rfl) T.isinstance_ (by decide +kernel) (pa_cons (pe_ix (Rx.ixT K) (pv 16) pe_int (fun _ _ => rfl)) (pa_cons (pe_bltn (v := .ty "tuple") (by rfl) T.tuple_ (by decide +kernel) rfl) pa_nil))) (pe_one (pe_cmpR (Rx.inD K (hu65 hr)) (pe_ix (Rx.ixT K) (pv 16) pe_int (fun _ _ => rfl)) (pv 11) (by rfl)))))))
        (pss_cons (ps_set (i := 17) sc_law.nd rfl (by first | exact Or.inl rfl | exact Or.inr rfl) (pe_and (pv 17) (pe_and (pe_cmpR (Rx.eqD K hr.units) (pe_ix (Rx.ixT K) (pv 16) pe_int (fun _ _ => rfl)) (pv 6) (nomark _)) (pe_one (pe_not (pe_callB (Rx.isiK K) (by rfl) T.isinstance_ (by decide +kernel) (pa_cons (pe_ix (Rx.ixT K) (pv 16) pe_int (fun _ _ => rfl)) (pa_cons (pe_bltn (v := .ty "bool") (by rfl) T.bool_ (by decide +kernel) rfl) pa_nil))))))))
        (pss_one (ps_if (pt_not (pt_val (pe_ca C_alike0 hr (by decide) (by rfl) (pa_cons (pe_ca C_shows_changes hr (by decide) (by rfl) (pa_cons (pv 2) (pa_cons (pv 3) (pa_cons (pv 4) (pa_cons (pv 16) pa_nil))))) (pa_cons (pv 17) pa_nil)))))
          (pss_one (ps_ret pe_bl)) pss_nil))))) hu, ?_⟩
  rintro u D σ H hrt ⟨S, r, n, a, g, gp, vp, ws, G, gs, vals, y5, y7, y8, y9, y10, y12, y13, y15, I, hG, hGT, hvp, hvals, hlv, rfl⟩ hnx
  obtain ⟨hK, hM⟩ := M n ws G I.n2 I.n6 I.l4 I.len I.ltW I.rise I.ltG I.glen
  have hfit : Fit n (leastL n ws G) ws G := ⟨I.n2, by have := I.n6; omega, I.rise, I.ltG, I.len, I.ltW, I.glen, hK⟩
  refine ⟨.ref vp, rfl, vp, rfl, ⟨_, sl_of hvp⟩, ?_⟩
  refine for_it (walk_list (K := K) (a := vp) (xs := vals)) (fun i σ' H' => ∃ y16 y17, σ' = [some (.ref sc), some (.ref r), some (nI n), some (.ref a), some (.ref g), y5, some (nI (leastL n ws G)), y7, y8, y9, y10, some (.ref gp), y12, y13, some (.ref vp), y15, y16, y17, none, none, none, none, none, none, none, none] ∧ Ex H H')
    ⟨none, none, rfl, Ex.refl _⟩ (fun i σ' H' _ p => by obtain ⟨_, _, _, e⟩ := p; exact e.sl (sl_of hvp)) (fun i x σ' H1 H2 hi p y => ?_) (fun σ' H1 p => ?_)
  · obtain ⟨y16, y17, rfl, e1⟩ := p
    obtain ⟨rfl, yv⟩ := y
    obtain ⟨due, hv0⟩ := hvals x (List.mem_of_getElem? yv)
    have hv := hv0.ex e1
    have I1 := I.ex e1
    have fin := fun (due : Bool) (hv : ShV H2 n (leastL n ws G) ws G x due) (D' : Ends) => fin_if (D := D') (sc := sc) (y5 := y5) (y6 := some (nI (leastL n ws G))) (y7 := y7) (y8 := y8) (y9 := y9) (y10 := y10) (y11 := some (.ref gp)) (y12 := y12) (y13 := y13) (y14 := some (.ref vp)) (y15 := y15) I1 hfit hv
    have hGT2 := TT_.ex hGT e1
    have hG2 := e1.lst hG
    refine go_name ?_
    rcases hv with ⟨hv3, rfl⟩ | ⟨l, xs, rfl, hl, rfl⟩ | ⟨t, z, l, xs, rfl, ht, hx, hl, rfl⟩ | ⟨t, z, r2, R, rfl, ht, hx, hr2, hRl, hRn, hdue⟩
    · rcases hv3 with rfl | ⟨j, rfl⟩
      · refine ⟨_, rfl, _, _, _, _, false, rfl, .ty "tuple", .base .non, kit_ty (by decide +kernel), false, rfl, iteF ?_⟩
        refine ⟨_, rfl, false, rfl, iteF ?_⟩
        exact fin false (hv0.ex e1) _ (fun H3 e3 => ⟨_, _, rfl, e1.trans e3⟩)
      · refine ⟨_, rfl, _, _, _, _, false, rfl, .ty "tuple", .base (.int j), kit_ty (by decide +kernel), false, rfl, iteF ?_⟩
        refine ⟨_, rfl, false, rfl, iteF ?_⟩
        exact fin false (hv0.ex e1) _ (fun H3 e3 => ⟨_, _, rfl, e1.trans e3⟩)
    · refine ⟨_, rfl, _, _, _, _, false, rfl, .ty "tuple", .base (.lst hl), kit_ty (by decide +kernel), false, rfl, iteF ?_⟩
      refine ⟨_, rfl, false, rfl, iteF ?_⟩
      exact fin false (hv0.ex e1) _ (fun H3 e3 => ⟨_, _, rfl, e1.trans e3⟩)
    · refine ⟨_, rfl, _, _, _, _, true, rfl, .ty "tuple", .base (.tup ht), kit_ty (by decide +kernel), true, rfl, iteT ?_⟩
      refine ⟨_, rfl, t, _, rfl, .inr (st_of ht), rfl, true, rfl, iteT ?_⟩
      refine ⟨_, rfl, t, _, (1 : Nat), .ref l, rfl, rfl, st_of ht, rfl, _, _, _, _, false, rfl, .ty "tuple", .base (.lst hl), kit_ty (by decide +kernel), false, rfl, iteF ?_⟩
      refine ⟨_, rfl, false, rfl, iteF ?_⟩
      exact fin false (hv0.ex e1) _ (fun H3 e3 => ⟨_, _, rfl, e1.trans e3⟩)
    · refine ⟨_, rfl, _, _, _, _, true, rfl, .ty "tuple", .base (.tup ht), kit_ty (by decide +kernel), true, rfl, iteT ?_⟩
      refine ⟨_, rfl, t, _, rfl, .inr (st_of ht), rfl, true, rfl, iteT ?_⟩
      refine ⟨_, rfl, t, _, (1 : Nat), .ref r2, rfl, rfl, st_of ht, rfl, _, _, _, _, true, rfl, .ty "tuple", .base (.tup hr2), kit_ty (by decide +kernel), true, rfl, iteT ?_⟩
      refine ⟨_, rfl, t, _, (1 : Nat), .ref r2, rfl, rfl, st_of ht, rfl, _, rfl, dT R, (goodL n ws G).map dT, dp_T (st_of hr2), .lst (sl_of hG2) (dp_TT hGT2), shaped_T _, shaped_LT _, ?_⟩
      rw [any_LT]
      have hgd : decide (R ∈ goodL n ws G) = (decide (ham ws R = leastL n ws G) && fitsB n G R) := by
        rw [Bool.eq_iff_iff, decide_eq_true_iff, Bool.and_eq_true, decide_eq_true_iff]
        constructor
        · intro h
          obtain ⟨_, _, h3, h4⟩ := good_mem h
          exact ⟨by rw [ham_comm]; exact h4, h3⟩
        · rintro ⟨h1, h2⟩
          exact mem_good hRl hRn h2 (by rw [ham_comm]; exact h1)
      rw [hgd]
      generalize (decide (ham ws R = leastL n ws G) && fitsB n G R) = gd at hdue
      subst hdue
      refine go_name ?_
      dsimp only
      cases gd with
      | false =>
        refine ⟨_, rfl, false, rfl, iteF ?_⟩
        have h := fin _ (hv0.ex e1)
        rw [Bool.and_false] at h
        exact h _ (fun H3 e3 => ⟨_, _, rfl, e1.trans e3⟩)
      | true =>
        refine ⟨_, rfl, true, rfl, iteT ?_⟩
        have h := fin _ (hv0.ex e1)
        rw [Bool.and_true] at h
        rcases hx with ⟨j, rfl⟩ | ⟨b, rfl⟩
        · refine ⟨_, rfl, t, _, (0 : Nat), .int j, rfl, rfl, st_of ht, rfl, _, rfl, .int j, .int (leastL n ws G : Nat), .int _, .int _, rfl, rfl, ?_⟩
          rw [PyData.eqv]
          by_cases hj : j = (leastL n ws G : Nat)
          · subst hj
            refine ⟨true, by rw [beq_self_eq_true], ?_⟩
            refine iteT ?_
            refine ⟨_, rfl, t, _, (0 : Nat), _, rfl, rfl, st_of ht, rfl, _, _, _, _, false, rfl, .ty "bool", .base (.int _), kit_ty (by decide +kernel), false, rfl, ?_⟩
            have e9 : decide (V.int ((leastL n ws G : Nat) : Int) = nI (leastL n ws G)) = true := decide_eq_true rfl
            rw [e9] at h
            exact h _ (fun H3 e3 => ⟨_, _, rfl, e1.trans e3⟩)
          · refine ⟨false, by rw [beq_false_of_ne hj], ?_⟩
            refine iteF ?_
            have e9 : decide (V.int j = nI (leastL n ws G)) = false := decide_eq_false (fun z => hj (V.int.inj z))
            rw [e9] at h
            exact h _ (fun H3 e3 => ⟨_, _, rfl, e1.trans e3⟩)
        · refine ⟨_, rfl, t, _, (0 : Nat), .bl b, rfl, rfl, st_of ht, rfl, _, rfl, .bool b, .int (leastL n ws G : Nat), .bl _, .int _, rfl, rfl, ?_⟩
          have e9 : decide (V.bl b = nI (leastL n ws G)) = false := decide_eq_false (fun z => by cases z)
          rw [e9] at h
          generalize PyData.eqv (.bool b) (.int (leastL n ws G : Nat)) = bb
          refine ⟨bb, rfl, ?_⟩
          cases bb with
          | false => exact iteF (h _ (fun H3 e3 => ⟨_, _, rfl, e1.trans e3⟩))
          | true =>
            refine iteT ?_
            refine ⟨_, rfl, t, _, (0 : Nat), _, rfl, rfl, st_of ht, rfl, _, _, _, _, true, rfl, .ty "bool", .base (.bl b), kit_ty (by decide +kernel), true, rfl, ?_⟩
            exact h _ (fun H3 e3 => ⟨_, _, rfl, e1.trans e3⟩)
  · obtain ⟨y16, y17, rfl, e1⟩ := p
    exact hnx _ _ ⟨S, r, n, a, g, ws, G, _, _, _, _, _, _, _, _, _, _, _, _, _, I.ex e1, rfl⟩
end
end Px
namespace Px
open PySem L2 PyProof.Rows Kx Tx Ma
/-- the place of car k in an order -/
def spotP (n : Nat) (ws : List Nat) (k : Nat) (p : List Nat) : Nat := (spots n (at_ ws p)).getD (p.idxOf k) 0
def lcntT (n : Nat) (ws : List Nat) (k : Nat) (L : List (List Nat)) : List Nat := L.foldl (fun cs p => addAt cs (spotP n ws k p) 1) (List.replicate n 0)
def lwlkT (n : Nat) (ws : List Nat) (k : Nat) (L : List (List Nat)) : Nat := L.foldl (fun c p => c + dist n (ws.getD k 0) (spotP n ws k p)) 0
def ordersL (m : Nat) : List (List Nat) := permL m (List.range m)
/-- what the plain laws say of the tallies -/
def MathE : Prop := ∀ (n : Nat) (ws : List Nat) (k : Nat), n ≤ 6 → Row4 n ws k → lcntT n ws k (ordersL ws.length) = cnts n ws k ∧ lwlkT n ws k (ordersL ws.length) = (wlks n ws k n).sum
theorem cut_perm {xs : List Nat} {k : Nat} (h : k < xs.length) : (xs.getD k 0 :: (xs.take k ++ xs.drop (k + 1))).Perm xs := by
  have e : xs = xs.take k ++ (xs.getD k 0 :: xs.drop (k + 1)) := by
    conv => lhs; rw [← List.take_append_drop k xs]
    rw [List.drop_eq_getElem_cons h, List.getD_eq_getElem?_getD, List.getElem?_eq_getElem h]
    rfl
  conv => rhs; rw [e]
  exact List.perm_middle.symm
theorem permL_perm : ∀ (d : Nat) (xs r : List Nat), xs.length = d → r ∈ permL d xs → r.Perm xs
  | 0, xs, r, h, hr => by
    have h1 : r = [] := by simpa [permL] using hr
    have h2 : xs = [] := List.eq_nil_of_length_eq_zero h
    rw [h1, h2]
  | d + 1, xs, r, h, hr => by
    obtain ⟨k, hk, h2⟩ := List.mem_flatMap.mp hr
    obtain ⟨r2, hr2, rfl⟩ := List.mem_map.mp h2
    have hk' := List.mem_range.mp hk
    exact ((permL_perm d _ r2 (cut_len h (by omega)) hr2).cons _).trans (cut_perm hk')
theorem drop_upd {H : Hp} {r : Addr} {u : HO} : drop (upd H r u) r = drop H r := by
  funext b
  by_cases h : b = r
  · rw [h, drop_self, drop_self]
  · rw [drop_ne h, drop_ne h, upd_ne h]
theorem rep_flat (n : Nat) : (List.replicate n [V.int 0]).flatten = (List.replicate n 0).map nI := by
  induction n with
  | zero => rfl
  | succ n ih => rw [List.replicate_succ, List.flatten_cons, ih, List.replicate_succ, List.map_cons]; rfl
end Px
namespace Px
open PySem L2 PyProof.Rows Kx Tx Ma
theorem lcnt_len (n : Nat) (ws : List Nat) (k : Nat) : ∀ (L : List (List Nat)) (cs : List Nat), (L.foldl (fun cs p => addAt cs (spotP n ws k p) 1) cs).length = cs.length
  | [], cs => rfl
  | p :: L, cs => by rw [List.foldl_cons, lcnt_len n ws k L]; exact addAt_len _ _ _
theorem go_andv {ta tb : TE} {σ : L2.St} {H : Hp} {Q : VK} (h : ta σ H fun x H1 => ∃ c, x = .bl c ∧ if c = true then tb σ H1 Q else Q (.bl false) H1) : tAndV ta tb σ H Q := h
section
variable {P : Program} {w : World} {K : PySem.W.Frag} {mg : Str → Option Value} {base : Heap} {f : Addr} {cdv : Value} {A : Around} {outer : List Env} {s : Shared} {H0 : Hp} {E : XK}
theorem segE {sc P1 P2 P3 P4 : Addr} (M : MathE) (T : Blt mg) (hr : Room 9 (A.deeper (envOfC "law" (defScope s_law) s.heap.objs.size f cdv)))
    (C_law_taken : Ca P w K mg base 1 "_law_taken" (sp_taken K)) (C_law_spots : Ca P w K mg base 1 "_law_spots" (sp_lspots K))
    (C_law_ratio : Ca P w K mg base 1 "_law_ratio" sp_lratio) (C_law_orders : Ca P w K mg base 5 "_law_orders" (sp_lorders K 4)) (C_alike1 : Ca P w K mg base 2 "_law_alike" (sp_tupS sp_alike0))
    (C_alike2 : Ca P w K mg base 3 "_law_alike" (sp_tupS (sp_tupS sp_alike0))) (C_spot_chances : Ca P w K mg base 8 "spot_chances" (sp_chances K P1)) (C_mean_walk_of : Ca P w K mg base 8 "mean_walk_of" (sp_mean K P1)) :
    Seg (lawX P w K mg base f cdv A outer s H0 E) 16 6 (StD K sc P1 P2 P3 P4) (fun _ _ => False) := by
  refine ⟨fun _ => tSeq _ (tSeq _ (tSeq _ (tSeq _ (tSeq _ _)))), fun u hu => pss_cons (ps_if (pt_cmpR (Rx.eqD K hr.units) (pv 3) (pe_tup pa_nil) (nomark _))
        (pss_one (ps_ret pe_bl)) pss_nil) (pss_cons (ps_asg (pe_tup (pa_cons (pe_ca C_law_taken hr (by decide) (by rfl) (pa_cons (pv 1) (pa_cons (pe_callB (Rx.lenK K) (by rfl) T.len_ (by decide +kernel) (pa_cons (pv 3) pa_nil)) pa_nil))) (pa_cons (pe_op op_rep (pe_lst (pa_cons pe_int pa_nil)) (pv 2)) (pa_cons pe_int pa_nil)))) (Rx.pgT (n := 3) K rfl (pgs_cons (pg_name (i := 15) sc_law.nd rfl (by first | exact Or.inl rfl | exact Or.inr rfl)) (pgs_cons (pg_name (i := 18) sc_law.nd rfl (by first | exact Or.inl rfl | exact Or.inr rfl)) (pgs_cons (pg_name (i := 19) sc_law.nd rfl (by first | exact Or.inl rfl | exact Or.inr rfl)) pgs_nil))))) (pss_cons (ps_set (i := 20) sc_law.nd rfl (by first | exact Or.inl rfl | exact Or.inr rfl) (pe_ca C_law_orders hr (by decide) (by rfl) (pa_cons (pe_lc (own := [("_law_j", 23)]) (by rfl) sc_law.nd (pi_range1 (by rfl) T.range_ (pa_cons (pe_callB (Rx.lenK K) (by rfl) T.len_ (by decide +kernel) (pa_cons (pv 3) pa_nil)) pa_nil)) (blkOk_by (own := [("_law_j", 23)]) (by rfl)) (fun _ _ _ _ _ => (pg_name (i := 23) sc_law.nd rfl (by first | exact Or.inl rfl | exact Or.inr rfl))) (fun _ _ _ _ _ => pts_nil) (fun _ _ _ _ _ => (pv 23))) pa_nil))) (pss_cons (ps_for PassesOwn.never rfl (Rx.piL K (pv 20)) (pg_name (i := 21) sc_law.nd rfl (by first | exact Or.inl rfl | exact Or.inr rfl))
        (pss_cons (ps_set (i := 22) sc_law.nd rfl (by first | exact Or.inl rfl | exact Or.inr rfl) (pe_ix (Rx.ixL K) (pe_ca C_law_spots hr (by decide) (by rfl) (pa_cons (pv 2) (pa_cons (pe_lc (own := [("_law_j", 23)]) (by rfl) sc_law.nd (Rx.piL K (pv 21)) (blkOk_by (own := [("_law_j", 23)]) (by rfl)) (fun _ _ _ _ _ => (pg_name (i := 23) sc_law.nd rfl (by first | exact Or.inl rfl | exact Or.inr rfl))) (fun _ _ _ _ _ => pts_nil) (fun _ _ _ _ _ => (pe_ix (Rx.ixT K) (pv 3) (pv 23) (fun _ _ => rfl)))) pa_nil))) (Rx.bm K PySem.F.plainAttrs_list PySem.F.slot_list_index PySem.F.type_list_index (Rx.idxK K) (pv 21) (pa_cons (pv 15) pa_nil)) (fun _ _ => rfl)))
        (pss_one (ps_asg (pe_tup (pa_cons (pe_op op_add (pe_ix (Rx.ixL K) (pv 18) (pv 22) (fun _ _ => rfl)) pe_int) (pa_cons (pe_op op_add (pv 19) (pe_op op_mod (pe_op op_sub (pv 22) (pe_ix (Rx.ixT K) (pv 3) (pv 15) (fun _ _ => rfl))) (pv 2))) pa_nil))) (Rx.pgT (n := 2) K rfl (pgs_cons (pg_sub (pv 18) (pv 22) set_list) (pgs_cons (pg_name (i := 19) sc_law.nd rfl (by first | exact Or.inl rfl | exact Or.inr rfl)) pgs_nil))))))) (pss_cons (ps_set (i := 17) sc_law.nd rfl (by first | exact Or.inl rfl | exact Or.inr rfl) (pe_callTy (Rx.tupK K) (by rfl) T.tuple_ (by decide +kernel) (pa_cons (pe_lc (own := [("_law_count", 24)]) (by rfl) sc_law.nd (Rx.piL K (pv 18)) (blkOk_by (own := [("_law_count", 24)]) (by rfl)) (fun _ _ _ _ _ => (pg_name (i := 24) sc_law.nd rfl (by first | exact Or.inl rfl | exact Or.inr rfl))) (fun _ _ _ _ _ => pts_nil) (fun _ _ _ _ _ => (pe_ca C_law_ratio hr (by decide) (by rfl) (pa_cons (pv 24) (pa_cons (pe_callB (Rx.lenK K) (by rfl) T.len_ (by decide +kernel) (pa_cons (pv 20) pa_nil)) pa_nil))))) pa_nil))) (pss_one (ps_ret (pe_and (pe_ca C_alike2 hr (by decide) (by rfl) (pa_cons (pe_ca C_spot_chances hr (by decide) (by rfl) (pa_cons (pv 2) (pa_cons (pv 3) (pa_cons (pv 15) pa_nil)))) (pa_cons (pv 17) pa_nil))) (pe_one (pe_ca C_alike1 hr (by decide) (by rfl) (pa_cons (pe_ca C_mean_walk_of hr (by decide) (by rfl) (pa_cons (pv 2) (pa_cons (pv 3) (pa_cons (pv 15) pa_nil)))) (pa_cons (pe_ca C_law_ratio hr (by decide) (by rfl) (pa_cons (pv 19) (pa_cons (pe_callB (Rx.lenK K) (by rfl) T.len_ (by decide +kernel) (pa_cons (pv 20) pa_nil)) pa_nil))) pa_nil))))))))))), ?_⟩
  rintro u D σ H hrt ⟨S, r, n, a, g, ws, G, y5, y6, y7, y8, y9, y10, y11, y12, y13, y14, y15, y16, y17, I, rfl⟩ _
  have n2 := I.n2
  have n6 := I.n6
  have l4 := I.l4
  have ok2 : ∀ x y : V, [x, y].length ≤ sizeLine := fun x y => by show 2 ≤ sizeLine; decide
  refine ⟨_, rfl, Nat.zero_le _, fun b nb => ?_⟩
  have e1 : Ex H (upd H b (.tup [])) := Ex.new nb
  refine ⟨dT ws, dT [], dp_T (st_of (e1.tup I.ha)), dp_T (st_of upd_same), shaped_T _, shaped_T _, ?_⟩
  rw [eqv_T]
  by_cases hw0 : ws = []
  · rw [decide_eq_true hw0]
    exact ⟨true, rfl, iteT (hrt _)⟩
  rw [decide_eq_false hw0]
  refine ⟨false, rfl, iteF ?_⟩
  have hm0 : 0 < ws.length := List.length_pos_iff.mpr hw0
  have I1 := I.ex e1
  generalize upd H b (.tup []) = H1 at I1
  refine go_nxt ?_
  dsimp only
  refine ⟨_, rfl, _, rfl, a, _, rfl, .inr (st_of I1.ha), S, r, (ws.map nI).length, rfl, by rw [List.length_map]; exact hm0, by rw [List.length_map]; omega, I1.row, fun k H2 hk nr => ?_⟩
  rw [List.length_map] at hk
  have x2 := RX.of_new nr
  have nar : a ≠ r := I1.row.neT I1.ha
  have ha2 := x2.tup I1.ha nar
  have t12 := x2.tab I1.row I1.t1
  have R4 : Row4 n ws k := ⟨n2, by omega, I.len, l4, I.ltW, hk⟩
  obtain ⟨hMc, hMw⟩ := M n ws k n6 R4
  refine ⟨by show 1 ≤ sizeLine; decide, fun z hz => ?_⟩
  have e3 : Ex H2 (upd H2 z (.lst [.int 0])) := Ex.new hz
  refine ⟨_, rfl, z, (n : Int), _, rfl, rfl, upd_same, by omega, by omega, sz_ok (by simp only [List.length_cons, List.length_nil]; omega), fun L hL => ?_⟩
  have en : (n : Int).toNat = n := by omega
  rw [en, rep_flat]
  have e4 := e3.trans (Ex.new (o := .lst ((List.replicate n 0).map nI)) hL)
  have hL' : upd (upd H2 z (.lst [.int 0])) L (.lst ((List.replicate n 0).map nI)) L = some (.lst ((List.replicate n 0).map nI)) := upd_same
  generalize upd (upd H2 z (.lst [.int 0])) L (.lst ((List.replicate n 0).map nI)) = H4 at e4 hL'
  refine ⟨by show 3 ≤ sizeLine; decide, fun t ht => ?_⟩
  have e5 := e4.trans (Ex.new (o := .tup [nI k, .ref L, .int 0]) ht)
  have hL5 := (Ex.new (o := .tup [nI k, .ref L, .int 0]) ht).lst hL'
  have ht5 : upd H4 t (.tup [nI k, .ref L, .int 0]) t = some (.tup [nI k, .ref L, .int 0]) := upd_same
  generalize upd H4 t (.tup [nI k, .ref L, .int 0]) = H5 at e5 hL5 ht5
  refine ⟨t, _, rfl, st_of ht5, rfl, nI k, _, rfl, .ref L, _, rfl, .int 0, _, rfl, rfl, ?_⟩
  dsimp only
  refine go_seq (go_asg (gE fun Q1 hQ1 => ?_))
  refine go_cll (go_cons (gL fun Q2 hQ2 => ?_))
  have ha5 := e5.tup ha2
  refine ⟨_, rfl, a, _, rfl, .inr (st_of ha5), _, rfl, by simp only [List.length_map]; omega, by simp only [List.length_map]; omega, ?_⟩
  have eN : (((ws.map nI).length : Nat) : Int).toNat = ws.length := by rw [List.length_map]; omega
  rw [eN]
  refine lc_vals (fun _ => true) (fun i => nI i) (walk_range (lo := 0) (n := ws.length)) (fun _ _ => True.intro) (by omega) (fun i x H6 H7 hi e6 y Ry Rn q1 _ => ?_) (fun D6 H6 nD6 e6 hD6 => ?_)
  · obtain ⟨rfl, rfl⟩ := y
    have ex : (fun i : Nat => V.int (0 + (i : Int))) i = nI i := by show V.int _ = V.int _; rw [Int.zero_add]
    rw [ex]
    exact ⟨rfl, goYes ⟨_, rfl, q1 rfl _ (Ex.refl _)⟩⟩
  rw [giv_all] at hD6
  refine hQ2 _ _ ?_
  refine ⟨D6, List.range ws.length, rfl, sl_of hD6, by rw [List.length_range]; exact l4, fun op as H7 hop e7 hop7 hL7 hfr => ?_⟩
  rw [List.length_range] at hL7
  have hL7' : LL H7 as (ordersL ws.length) := hL7
  have e57 := e6.trans e7
  have hL70 := e57.lst hL5
  have naL : ∀ c ∈ as, c ≠ L := fun c hc z => by
    have h1 := hfr c hc
    rw [z, e6.lst hL5] at h1
    cases h1
  have nopL : op ≠ L := fun z => by
    rw [z, e6.lst hL5] at hop
    cases hop
  have ha7 := e57.tup ha5
  have t17 := (e5.trans e57).tab _ t12
  refine hQ1 _ _ ?_
  refine go_name ?_
  dsimp only
  have hol : (ordersL ws.length).length = fac ws.length := permL_len _ _ List.length_range
  have hN0 := fac_pos ws.length
  have hN24 := fac24 l4
  have hasl : as.length = fac ws.length := by rw [hL7'.1, hol]
  have naL2 : a ≠ L := fun z => by rw [z, hL70] at ha7; cases ha7
  refine go_seq ?_
  refine ⟨.ref op, rfl, op, rfl, ⟨_, sl_of hop7⟩, ?_⟩
  refine for_it (walk_list (K := K) (a := op) (xs := as.map V.ref)) (fun i σ' H' => ∃ y21 y22, σ' = [some (.ref sc), some (.ref r), some (nI n), some (.ref a), some (.ref g), y5, y6, y7, y8, y9, y10, y11, y12, y13, y14, some (nI k), y16, y17, some (.ref L), some (nI (lwlkT n ws k ((ordersL ws.length).take i))), some (.ref op), y21, y22, none, none, none] ∧
      Ex (drop H7 L) H' ∧ H' L = some (.lst ((lcntT n ws k ((ordersL ws.length).take i)).map nI)))
    ⟨none, none, rfl, drop_ex H7 L, hL70⟩ (fun i σ' H' _ p => by obtain ⟨_, _, _, e, _⟩ := p; exact sl_of (e.lst (by rw [drop_ne nopL]; exact hop7))) (fun i x σ' H8 H9 hi p y => ?_) (fun σ' H8 p => ?_)
  · obtain ⟨z21, z22, rfl, e8, hL8⟩ := p
    obtain ⟨rfl, yv⟩ := y
    obtain ⟨c, hc, rfl⟩ : ∃ c, as[i]? = some c ∧ x = .ref c := by
      rw [List.getElem?_map] at yv
      cases e : as[i]? with
      | none => rw [e] at yv; cases yv
      | some c => rw [e] at yv; exact ⟨c, rfl, (Option.some.inj yv).symm⟩
    have hi' : i < (ordersL ws.length).length := by rw [← hL7'.1]; exact (List.getElem?_eq_some_iff.mp hc).1
    obtain ⟨pp, hpp⟩ : ∃ pp, (ordersL ws.length)[i]? = some pp := ⟨_, List.getElem?_eq_getElem hi'⟩
    have hcp0 := hL7'.2 i c pp hc hpp
    have hcp : H9 c = some (.lst (pp.map nI)) := e8.lst (by rw [drop_ne (naL c (List.mem_of_getElem? hc))]; exact hcp0)
    have hperm := permL_perm _ _ pp List.length_range (List.mem_of_getElem? hpp)
    have hpl : pp.length = ws.length := by rw [hperm.length_eq, List.length_range]
    have hpm : ∀ j ∈ pp, j < ws.length := fun j hj => List.mem_range.mp (hperm.mem_iff.mp hj)
    have hkp : k ∈ pp := hperm.mem_iff.mpr (List.mem_range.mpr hk)
    have ha9 : H9 a = some (.tup (ws.map nI)) := e8.tup (by rw [drop_ne naL2]; exact ha7)
    have hatl : (at_ ws pp).length = ws.length := by rw [at_len, hpl]
    have hatn : ∀ x ∈ at_ ws pp, x < n := fun x hx => by
      unfold at_ at hx
      obtain ⟨j, hj, rfl⟩ := List.mem_map.mp hx
      exact I.ltW _ (List.mem_of_getElem? (get_getD (hpm j hj)))
    refine go_name ?_
    refine go_seq (go_asg (go_op (gC fun Q3 hQ3 => ?_)))
    refine go_cll (go_cons ⟨_, rfl, go_cons (gL fun Q4 hQ4 => ?_)⟩)
    refine ⟨.ref c, rfl, c, rfl, ⟨_, sl_of hcp⟩, ?_⟩
    refine lc_vals (fun _ => true) (fun j => nI (ws.getD (pp.getD j 0) 0)) (walk_list (K := K) (a := c) (xs := pp.map nI)) (fun H' e' => sl_of (e'.lst hcp)) (by rw [List.length_map]; omega) (fun j x H10 H11 hj e10 y Ry Rn q1 _ => ?_) (fun D10 H10 nD10 e10 hD10 => ?_)
    · obtain ⟨rfl, yv⟩ := y
      obtain ⟨v, hv, rfl⟩ := nI_get yv
      rw [getD_of hv] at q1
      have hvl := hpm v (List.mem_of_getElem? hv)
      have hwv : (ws.map nI)[v]? = some (nI (ws.getD v 0)) := get_nI (get_getD hvl)
      exact ⟨rfl, goYes ⟨_, rfl, _, rfl, a, _, v, nI (ws.getD v 0), rfl, rfl, st_of (e10.tup ha9), atI_nat hwv, q1 rfl _ (Ex.refl _)⟩⟩
    refine hQ4 _ _ ?_
    have eD : giv (pp.map nI).length (fun _ => true) (fun j => nI (ws.getD (pp.getD j 0) 0)) = (at_ ws pp).map nI := by
      rw [List.length_map, giv_list pp (fun _ => true) (fun j => nI (ws.getD j 0)), List.filter_eq_self.mpr (fun _ _ => rfl)]
      unfold at_
      rw [List.map_map]
      rfl
    rw [eD] at hD10
    refine ⟨n, D10, at_ ws pp, rfl, .inr (sl_of hD10), by rw [hatl]; exact I.len, by omega, hatn, fun o H12 ho e12 ho12 => ?_⟩
    refine hQ3 _ _ ?_
    have e912 := e10.trans e12
    have hc12 := e912.lst hcp
    obtain ⟨i1, i2⟩ := idx_spec hkp
    have hil : pp.idxOf k < (spots n (at_ ws pp)).length := by
      rw [spots_len, hatl, ← hpl]
      exact List.idxOf_lt_length_iff.mpr hkp
    have htk := spots_tk (n := n) (ws := at_ ws pp) (by rw [hatl]; exact I.len) hatn
    have hsn : spotP n ws k pp < n := htk.lt _ (List.mem_of_getElem? (get_getD hil))
    refine ⟨.ref c, rfl, .inl ⟨rfl, _, .inl (.inl hc12)⟩, _, rfl, c, _, nI k, pp.idxOf k, nI k, rfl, rfl, sl_of hc12, rfl, flat_nI pp, get_nI i1, beq_self_eq_true _, i2, ?_⟩
    refine ⟨o, _, pp.idxOf k, nI (spotP n ws k pp), rfl, rfl, sl_of ho12, atI_nat (get_nI (get_getD hil)), ?_⟩
    refine go_name ?_
    dsimp only
    have hwk : (ws.map nI)[k]? = some (nI (ws.getD k 0)) := get_nI (get_getD hk)
    have hwkn : ws.getD k 0 < n := I.ltW _ (List.mem_of_getElem? (get_getD hk))
    have hcl : (lcntT n ws k ((ordersL ws.length).take i)).length = n := by
      unfold lcntT
      rw [lcnt_len, List.length_replicate]
    have hL12 := e912.lst hL8
    have hcg : ((lcntT n ws k ((ordersL ws.length).take i)).map nI)[spotP n ws k pp]? = some (nI ((lcntT n ws k ((ordersL ws.length).take i)).getD (spotP n ws k pp) 0)) := get_nI (get_getD (by omega))
    refine ⟨_, rfl, _, rfl, L, _, spotP n ws k pp, _, rfl, rfl, sl_of hL12, atI_nat hcg, _, _, rfl, rfl, _, rfl, _, rfl, _, rfl, _, rfl, a, _, k, nI (ws.getD k 0), rfl, rfl, st_of (e912.tup ha9), atI_nat hwk, _, _, rfl, rfl, _, rfl, _, _, rfl, rfl, by omega, _, _, rfl, rfl, ok2 _ _, fun t2 ht2 => ?_⟩
    dsimp only
    have e13 : Ex H12 (upd H12 t2 (.tup [V.int (((lcntT n ws k ((ordersL ws.length).take i)).getD (spotP n ws k pp) 0 : Nat) + 1), V.int ((lwlkT n ws k ((ordersL ws.length).take i) : Nat) + ((spotP n ws k pp : Nat) - (ws.getD k 0 : Nat)) % (n : Int))])) := Ex.new ht2
    have e14 := e912.trans e13
    have nL13 : t2 ≠ L := fun z => by rw [z, hL12] at ht2; cases ht2
    refine ⟨t2, _, rfl, st_of upd_same, rfl, _, _, rfl, _, rfl, _, rfl, L, _, _, spotP n ws k pp, rfl, rfl, e13.lst hL12, ixN_nat (by rw [List.length_map]; omega), _, _, rfl, rfl, ?_⟩
    have htk1 : (ordersL ws.length).take (i + 1) = (ordersL ws.length).take i ++ [pp] := by rw [List.take_add_one, hpp]; rfl
    refine ⟨some (.ref c), some (nI (spotP n ws k pp)), ?_, (e8.trans e14).mut drop_self, ?_⟩
    · have hv : V.int ((lwlkT n ws k ((ordersL ws.length).take i) : Nat) + ((spotP n ws k pp : Nat) - (ws.getD k 0 : Nat)) % (n : Int)) = nI (lwlkT n ws k ((ordersL ws.length).take (i + 1))) := by
        rw [htk1]
        have h1 := V.int.inj (nI_sub (n := n) (w := ws.getD k 0) (s := spotP n ws k pp) hwkn)
        rw [h1]
        unfold lwlkT nI
        rw [List.foldl_append]
        rfl
      exact congrArg (fun v => [some (V.ref sc), some (V.ref r), some (nI n), some (V.ref a), some (V.ref g), y5, y6, y7, y8, y9, y10, y11, y12, y13, y14, some (nI k), y16, y17, some (V.ref L), some v, some (V.ref op), some (V.ref c), some (nI (spotP n ws k pp)), none, none, none]) hv
    · rw [upd_same, htk1]
      unfold lcntT
      rw [List.foldl_append]
      show some (HO.lst (List.set _ _ _)) = some (HO.lst (List.map nI (addAt _ _ _)))
      unfold addAt
      rw [List.map_set]
      rfl
  · obtain ⟨z21, z22, rfl, e8, hL8⟩ := p
    rw [List.length_map, hL7'.1, List.take_length, hMc] at hL8
    rw [List.length_map, hL7'.1, List.take_length, hMw]
    have hop8 : H8 op = some (.lst (as.map V.ref)) := e8.lst (by rw [drop_ne nopL]; exact hop7)
    have ha8 : H8 a = some (.tup (ws.map nI)) := e8.tup (by rw [drop_ne naL2]; exact ha7)
    have t18 : GxR.TabG H8 P1 := by
      refine e8.tab _ ?_
      obtain ⟨ps, e, tr⟩ := t17
      exact ⟨ps, by rw [drop_ne (fun z => by rw [z, hL70] at e; cases e)]; exact e, tr⟩
    have hcl : (cnts n ws k).length = n := cntT_len n ws k ws.length
    have hlen : (as.map V.ref).length = fac ws.length := by rw [List.length_map, hasl]
    dsimp only
    refine go_seq (go_asg (go_cty (go_cons (gL fun Q5 hQ5 => ?_))))
    refine ⟨.ref L, rfl, L, rfl, ⟨_, sl_of hL8⟩, ?_⟩
    refine lc_gen (fun D j acc H' => ∃ rs, acc = rs.map V.ref ∧ TT_ H' rs (((cnts n ws k).take j).map fun c => rt c (fac ws.length))) (walk_list (K := K) (a := L) (xs := (cnts n ws k).map nI)) (fun H' e => sl_of (e.lst hL8)) (by rw [List.length_map]; omega)
      (fun D _ => ⟨[], rfl, TT_.nil⟩) (fun D j acc x H9 H10 hj nD e9 hD hA y Ry Rn k1 _ => ?_) (fun R acc H9 nR e9 hR hlen2 hA => ?_)
    · obtain ⟨rfl, yv⟩ := y
      obtain ⟨rs, rfl, hT⟩ := hA
      obtain ⟨c, hc, rfl⟩ := nI_get yv
      refine ⟨rfl, goYes ?_⟩
      refine ⟨_, rfl, _, rfl, op, _, rfl, .inl (sl_of (e9.lst hop8)), c, (as.map V.ref).length, rfl, by rw [hlen]; exact hN0, by rw [hlen]; omega, fun q H11 hq e11 hq11 => ?_⟩
      rw [hlen] at hq11
      have nqD : q ≠ D := fun z => by rw [z, e11.lst hD] at hq11; cases hq11
      refine k1 _ _ e11 ⟨rs ++ [q], by rw [List.map_append]; rfl, ?_⟩
      rw [List.take_add_one, hc, List.map_append]
      refine TT_.snoc (TT_.wr (TT_.ex hT e11) (e11.lst hD)) ?_
      rw [upd_ne nqD]
      exact hq11
    obtain ⟨rs, rfl, hT⟩ := hA
    rw [List.length_map, List.take_length] at hT
    refine hQ5 _ _ ⟨R, _, rfl, .inl ⟨sl_of hR, fun q hq => ?_⟩⟩
    have e10 : Ex H9 (upd H9 q (.tup (rs.map V.ref))) := Ex.new hq
    have hq10 : upd H9 q (.tup (rs.map V.ref)) q = some (.tup (rs.map V.ref)) := upd_same
    generalize upd H9 q (.tup (rs.map V.ref)) = H10 at e10 hq10
    have e810 := e9.trans e10
    have hT10 := TT_.ex hT e10
    refine go_name ?_
    dsimp only
    refine go_ret (gE fun Q6 hQ6 => ?_)
    have hQ7 : ∀ H', Q6 (.bl true) H' := fun H' => hQ6 _ _ (hrt H')
    refine go_andv (gC fun Q7 hQ8 => ?_)
    have ha10 := e810.tup ha8
    have hxs : ∀ xs ∈ (cnts n ws k).map (fun c => rt c (fac ws.length)), xs.length ≤ 100 := fun xs hx => by
      obtain ⟨c, _, rfl⟩ := List.mem_map.mp hx
      show 2 ≤ 100
      decide
    refine ⟨_, rfl, _, rfl, _, rfl, n, a, ws, k, rfl, .inl ha10, e810.tab _ t18, R4, fun p ps H11 np e11 hp11 hT11 => ⟨_, rfl, ?_⟩⟩
    refine alike2 (E := E0) hp11 (e11.tup hq10) hT11 (TT_.ex hT10 e11) (by rw [List.length_map, hcl]; omega) hxs (fun H12 e12 => hQ8 _ _ ⟨true, rfl, iteT ?_⟩)
    have e812 := e810.trans (e11.trans e12)
    refine ⟨_, rfl, _, rfl, _, rfl, n, a, ws, k, rfl, .inl (e812.tup ha8), e812.tab _ t18, R4, fun p2 H13 np2 e13 hp13 => ?_⟩
    refine ⟨_, rfl, _, rfl, op, _, rfl, .inl (sl_of ((e812.trans e13).lst hop8)), (wlks n ws k n).sum, (as.map V.ref).length, rfl, by rw [hlen]; exact hN0, by rw [hlen]; omega, fun p3 H14 np3 e14 hp14 => ?_⟩
    rw [hlen] at hp14
    exact alike1 (E := E0) (e14.tup hp13) hp14 (by show 2 ≤ 100; decide) (fun H15 _ => hQ7 H15)
end
end Px
namespace Px
open PySem L2 PyProof.Rows Kx Tx Ma
section
variable {P : Program} {w : World} {K : PySem.W.Frag} {mg : Str → Option Value} {base : Heap}
def sp_law (K : PySem.W.Frag) (P1 P2 P3 P4 : Addr) : Sp := fun vs H Q _ => ∃ (sc : Addr) (zs : List Int), vs = [.ref sc] ∧ SqL K H sc (zs.map V.int) ∧ GxR.TabG H P1 ∧ GxR.TabG H P2 ∧ GxR.TabG H P3 ∧ GxR.TabG H P4 ∧ ∀ H', Q (.bl true) H'
theorem c_law {P1 P2 P3 P4 : Addr} {f : Addr} {fd : FuncData} (M : MathF) (M2 : MathE) (D : Fun K "law" "law" s_law f fd) (T : Blt mg)
    (C_law_taken : Ca P w K mg base 1 "_law_taken" (sp_taken K)) (C_law_wishes : Ca P w K mg base 3 "_law_wishes" (sp_wishes K)) (C_law_spots : Ca P w K mg base 1 "_law_spots" (sp_lspots K))
    (C_law_ratio : Ca P w K mg base 1 "_law_ratio" sp_lratio) (C_law_orders : Ca P w K mg base 5 "_law_orders" (sp_lorders K 4)) (C_alike0 : Ca P w K mg base 1 "_law_alike" sp_alike0) (C_alike1 : Ca P w K mg base 2 "_law_alike" (sp_tupS sp_alike0))
    (C_alike2 : Ca P w K mg base 3 "_law_alike" (sp_tupS (sp_tupS sp_alike0))) (C_fewest_changes : Ca P w K mg base 9 "fewest_changes" (sp_fewest K P1 P2 P3)) (C_shows_changes : Ca P w K mg base 9 "shows_changes" (sp_shows K P1 P2 P3 P4))
    (C_spot_chances : Ca P w K mg base 8 "spot_chances" (sp_chances K P1)) (C_mean_walk_of : Ca P w K mg base 8 "mean_walk_of" (sp_mean K P1)) : FnOk P w K mg base CX0 10 f fd ["_law_script"] (sp_law K P1 P2 P3 P4) := by
  refine D.ok sc_law (fun vs H Q E h => ?_) (fun cdv A outer s H vs Q E hr h => ?_)
  · obtain ⟨sc, zs, rfl, _⟩ := h
    rfl
  · obtain ⟨sc, zs, rfl, hs, hP1, hP2, hP3, hP4, q⟩ := h
    obtain ⟨TA, pA, qA⟩ := segA (P := P) (w := w) (base := base) (f := f) (cdv := cdv) (A := A) (outer := outer) (s := s) (H0 := H) (E := E) (sc := sc) (P1 := P1) (P2 := P2) (P3 := P3) (P4 := P4) (zs := zs) T hr C_law_taken C_law_wishes C_law_spots
    obtain ⟨TB, pB, qB⟩ := segB (P := P) (w := w) (base := base) (f := f) (cdv := cdv) (A := A) (outer := outer) (s := s) (H0 := H) (E := E) (sc := sc) (P1 := P1) (P2 := P2) (P3 := P3) (P4 := P4) T hr C_law_spots
    obtain ⟨TC, pC, qC⟩ := segC (P := P) (w := w) (base := base) (f := f) (cdv := cdv) (A := A) (outer := outer) (s := s) (H0 := H) (E := E) (sc := sc) (P1 := P1) (P2 := P2) (P3 := P3) (P4 := P4) M T hr C_fewest_changes
    obtain ⟨TD, pD, qD⟩ := segD (P := P) (w := w) (base := base) (f := f) (cdv := cdv) (A := A) (outer := outer) (s := s) (H0 := H) (E := E) (sc := sc) (P1 := P1) (P2 := P2) (P3 := P3) (P4 := P4) M T hr C_alike0 C_shows_changes
    obtain ⟨TE, pE, qE⟩ := segE (P := P) (w := w) (base := base) (f := f) (cdv := cdv) (A := A) (outer := outer) (s := s) (H0 := H) (E := E) (sc := sc) (P1 := P1) (P2 := P2) (P3 := P3) (P4 := P4) M2 T hr C_law_taken C_law_spots C_law_ratio C_law_orders C_alike1 C_alike2 C_spot_chances C_mean_walk_of
    refine ⟨TA (TB (TC (TD (TE tNext)))), pA _ (pB _ (pC _ (pD _ (pE tNext pss_nil)))), ?_⟩
    refine qA _ _ _ _ q ⟨rfl, hs, hP1, hP2, hP3, hP4⟩ (fun σ1 H1 h1 => ?_)
    refine qB _ _ _ _ q h1 (fun σ2 H2 h2 => ?_)
    refine qC _ _ _ _ q h2 (fun σ3 H3 h3 => ?_)
    refine qD _ _ _ _ q h3 (fun σ4 H4 h4 => ?_)
    exact qE _ _ _ _ q h4 (fun _ _ h5 => h5.elim)
end
end Px
namespace Px
open PySem L2 PyProof.Rows Kx Tx Ma
/-- the end, with what is known of the whole top at hand -/
theorem walk_top {l : PySem.W.OpenLaw} {n k : Nat} {q : Program} {loose : List Str} {XP : (Str → Option Value) → Heap → Prop} {YP : World → Heap → Prop} {d : DefRec} {K : Params → PySem.W.Frag} {CX : World → CXT} {x : Str}
    (hn : l.most = some n) (hn2 : n ≤ sizeLine) (hdf : d.params.defaults = []) (hr : Room k callerA) (hY : ∀ (w : World) (h : Heap), YP w h → (K w.params).In h)
    (F : ∀ (w : World) (lo : List Str) (mean : ExcName → Option Value) (mg mb : Str → Option Value) (fa : Addr) (h : Heap), (K w.params).In h → Top q lo mean mg mb h → mg d.name = some (.ref fa) → LamX.LawAtS l w (K w.params) (CX w) k n x mg fa h)
    (hCX : ∀ (w : World) (H : Hp) (s : Shared) (e : Value) (s' : Shared), CX w [] H s (fun _ _ _ => False) e s' → False) :
    PySem.W.WalkO q loose XP YP l.row.toRowW d [] (fun f vs => PySem.call f vs) := by
  refine Att.attach_callB hn hdf fun w s₀ s₁ mg mb fa o pm cd doc a vs ns G Y ho hd hcd hmg hobj hints hlen hbits hg => ?_
  have KX := hY w _ Y
  obtain ⟨fd, cs, sp, hT, nT, C, hb, hsp, hF⟩ := F w _ _ mg mb fa _ KX G.T hmg
  exact LamX.law_callTs KX G.T.g G.T.b G.T.builtins G.T.nolimit hg hT nT C G.T.bmain hobj hints (Nat.le_trans hlen hn2) hr hF hb (fun H hH hS => hsp H a ns hlen hbits hH hS) fun H e s' => hCX w H s₁ e s'
abbrev kOf {K : PySem.W.Frag} {h : Heap} (_ : K.In h) : PySem.W.Frag := K
section
variable {K : PySem.W.Frag} {h : Heap} {mg : Str → Option Value}
theorem d0_mk {x : Str} {st : Stmt} {ps : List Str} {f : Addr} {oc : Value} {od an : Option Addr} {osl : Array (Option Value)} {kV doc pm cdv ct : Value} (X : K.In h) (G : h.Ns mainGlobals mg) (a : PySem.W.nsIn K mainGlobals x = some (some (.ref f)))
    (l : K.lookup f = some ⟨oc, od, .func (PySem.W.fnOf x x (defArgs st) (defBody st) (defScope st) .none kV doc pm an cdv ct), osl⟩) (c : PySem.W.codeIn K cdv x = true) (k : PySem.W.keepIn K (.ref f) = true)
    (b : ∀ (kV doc pm : Value) (an : Option Addr) (cdv ct : Value) (us : List Value), us.length = ps.length → bindArgs (PySem.W.fnOf x x (defArgs st) (defBody st) (defScope st) .none kV doc pm an cdv ct) ⟨us, []⟩ = pure (ps.zip us)) : D0 K mg x st ps :=
  ⟨f, _, fun_mk l c k, PySem.W.mg_of X G a, (fun_mk l c k).binds b⟩
theorem ls_mk {x : Str} {v : Value} {n : Int} (X : K.In h) (G : h.Ns mainGlobals mg) (a : PySem.W.nsIn K mainGlobals x = some (some v)) (e : ∃ t, v = .int n t) : ∃ t, mg x = some (.int n t) := by
  obtain ⟨t, rfl⟩ := e
  exact ⟨t, PySem.W.mg_of X G a⟩
theorem d1_mk {x : Str} {st : Stmt} {ps : List Str} {f c0 : Addr} {oc : Value} {od an : Option Addr} {osl : Array (Option Value)} {kV doc pm ct : Value} (X : K.In h) (G : h.Ns mainGlobals mg) (a : PySem.W.nsIn K mainGlobals x = some (some (.ref f)))
    (l : K.lookup f = some ⟨oc, od, .func (PySem.W.fnOf x x (defArgs st) (defBody st) (defScope st) .none kV doc pm an (.ref c0) ct), osl⟩) (c : PySem.W.codeIn K (.ref c0) x = true) (k : PySem.W.keepIn K (.ref f) = true)
    (b : ∀ (kV doc pm : Value) (an : Option Addr) (cdv ct : Value) (us : List Value), us.length = ps.length → bindArgs (PySem.W.fnOf x x (defArgs st) (defBody st) (defScope st) .none kV doc pm an cdv ct) ⟨us, []⟩ = pure (ps.zip us)) : D1 K mg x st ps c0 :=
  ⟨f, oc, od, kV, doc, pm, an, ct, osl, l, c, k, PySem.W.mg_of X G a, (fun_mk l c k).binds b⟩
end
/-- all defs, all the builtins: the law's promise -/
structure AllD (K : PySem.W.Frag) (mg : Str → Option Value) (c1 c2 c3 c4 : Addr) : Prop where
  T : Blt mg
  is_in : D0 K mg "is_in" s_is_in ["value", "least", "most"]
  need_size : D0 K mg "need_size" s_need_size ["size"]
  are_wishes : D1 K mg "are_wishes" s_are_wishes ["size", "value"] c1
  need_wishes : D0 K mg "need_wishes" s_need_wishes ["size", "wishes"]
  is_set : D1 K mg "is_set" s_is_set ["size", "value"] c2
  spots_of : D0 K mg "spots_of" s_spots_of ["size", "wishes"]
  everything : D0 K mg "everything" s_everything ["size"]
  blocks_of : D0 K mg "blocks_of" s_blocks_of ["size", "one"]
  block_places : D0 K mg "block_places" s_block_places ["size", "whole"]
  ratio : D0 K mg "ratio" s_ratio ["top", "bottom"]
  plus : D0 K mg "plus" s_plus ["one", "other"]
  by_ : D0 K mg "by" s_by ["one", "other"]
  sum_of : D0 K mg "sum_of" s_sum_of ["some"]
  need_index : D0 K mg "need_index" s_need_index ["size", "wishes", "index"]
  need_goal : D0 K mg "need_goal" s_need_goal ["size", "wishes", "goal"]
  is_kept : D1 K mg "is_kept" s_is_kept ["size", "wishes", "goal", "kept"] c3
  kept_of : D0 K mg "kept_of" s_kept_of ["size", "wishes", "goal"]
  ranked : D0 K mg "ranked" s_ranked ["places", "wishes"]
  changed : D0 K mg "changed" s_changed ["size", "wishes", "goal"]
  fewest_changes : D0 K mg "fewest_changes" s_fewest_changes ["size", "wishes", "goal"]
  shows_changes : D1 K mg "shows_changes" s_shows_changes ["size", "wishes", "goal", "value"] c4
  spot_row : D0 K mg "spot_row" s_spot_row ["size", "wishes", "index"]
  orders : D0 K mg "orders" s_orders ["many"]
  spot_chances : D0 K mg "spot_chances" s_spot_chances ["size", "wishes", "index"]
  mean_walk_of : D0 K mg "mean_walk_of" s_mean_walk_of ["size", "wishes", "index"]
  law_taken : D0 K mg "_law_taken" s_law_taken ["_law_row", "_law_many"]
  law_pick : D0 K mg "_law_pick" s_law_pick ["_law_row", "_law_things"]
  law_alike : D0 K mg "_law_alike" s_law_alike ["_law_found", "_law_due"]
  law_ratio : D0 K mg "_law_ratio" s_law_ratio ["_law_top", "_law_bottom"]
  law_spots : D0 K mg "_law_spots" s_law_spots ["_law_size", "_law_wishes_here"]
  law_wishes : D0 K mg "_law_wishes" s_law_wishes ["_law_row", "_law_size"]
  law_orders : D0 K mg "_law_orders" s_law_orders ["_law_some"]
theorem AllD.go {P : Program} {w : World} {K : PySem.W.Frag} {mg : Str → Option Value} {base : Heap} {c1 c2 c3 c4 P1 P2 P3 P4 f : Addr} {fd : FuncData} (F : Fun K "law" "law" s_law f fd) (d : AllD K mg c1 c2 c3 c4) (M : MathF) (M2 : MathE) (b1 : GxR.TabB base mg c1 P1) (b2 : GxR.TabB base mg c2 P2) (b3 : GxR.TabB base mg c3 P3) (b4 : GxR.TabB base mg c4 P4) :
    FnOk P w K mg base CX0 10 f fd ["_law_script"] (sp_law K P1 P2 P3 P4) := by
  have C_is_in : Ca P w K mg base 1 "is_in" sp_is_in := c_is_in d.is_in d.T
  have C_need_size : Ca P w K mg base 2 "need_size" sp_need_size := c_need_size d.need_size d.T C_is_in
  have C_are_wishes : Ca P w K mg base 5 "are_wishes" (sp_are_wishes K P1) := c_are_wishes d.are_wishes b1 d.T C_is_in
  have C_need_wishes : Ca P w K mg base 6 "need_wishes" (sp_need_wishes K P1) := c_need_wishes d.need_wishes d.T C_need_size C_are_wishes
  have C_is_set : Ca P w K mg base 5 "is_set" (sp_is_set K P2) := c_is_set d.is_set b2 d.T C_is_in
  have C_spots_of : Ca P w K mg base 1 "spots_of" (sp_spots_of K) := c_spots_of d.spots_of d.T
  have C_everything : Ca P w K mg base 1 "everything" sp_everything := c_everything d.everything d.T
  have C_blocks_of : Ca P w K mg base 1 "blocks_of" (sp_blocks_of K) := c_blocks_of d.blocks_of d.T
  have C_block_places : Ca P w K mg base 2 "block_places" (sp_block_places K) := c_block_places d.block_places d.T C_blocks_of
  have C_ratio : Ca P w K mg base 1 "ratio" sp_ratio := c_ratio d.ratio d.T
  have C_plus : Ca P w K mg base 2 "plus" (sp_plus K) := c_plus d.plus d.T C_ratio
  have C_by : Ca P w K mg base 2 "by" (sp_by K) := c_by d.by_ d.T C_ratio
  have C_sum_of : Ca P w K mg base 3 "sum_of" (sp_sum_of K) := c_sum_of d.sum_of d.T C_plus
  have C_need_index : Ca P w K mg base 7 "need_index" (sp_need_index K P1) := c_need_index d.need_index d.T C_is_in C_need_wishes
  have C_need_goal : Ca P w K mg base 7 "need_goal" (sp_need_goal K P1 P2) := c_need_goal d.need_goal d.T C_is_set C_need_wishes
  have C_is_kept : Ca P w K mg base 6 "is_kept" (sp_is_kept K P3) := c_is_kept d.is_kept b3 d.T C_block_places
  have C_ranked : Ca P w K mg base 1 "ranked" (sp_ranked K) := c_ranked d.ranked d.T
  have C_kept_of : Ca P w K mg base 7 "kept_of" (sp_kept_of K P3) := c_kept_of d.kept_of d.T C_block_places C_ranked C_is_kept
  have C_changed : Ca P w K mg base 8 "changed" (sp_changed K P3) := c_changed d.changed d.T C_kept_of C_spots_of
  have C_fewest : Ca P w K mg base 9 "fewest_changes" (sp_fewest K P1 P2 P3) := c_fewest d.fewest_changes d.T C_need_goal C_changed
  have C_shows : Ca P w K mg base 9 "shows_changes" (sp_shows K P1 P2 P3 P4) := c_shows d.shows_changes b4 d.T C_is_in C_spots_of C_need_goal C_changed
  have C_orders : Ca P w K mg base 1 "orders" sp_orders := c_orders d.orders d.T
  have C_spot_row : Ca P w K mg base 3 "spot_row" (sp_spot_row K) := c_spot_row d.spot_row d.T C_spots_of C_ratio C_orders C_plus
  have C_spot_chances : Ca P w K mg base 8 "spot_chances" (sp_chances K P1) := c_chances d.spot_chances d.T C_need_index C_spot_row
  have C_mean : Ca P w K mg base 8 "mean_walk_of" (sp_mean K P1) := c_mean d.mean_walk_of d.T C_need_index C_spot_row C_sum_of C_everything C_by
  have C_taken : Ca P w K mg base 1 "_law_taken" (sp_taken K) := c_taken d.law_taken d.T
  have C_pick : Ca P w K mg base 2 "_law_pick" (sp_pick K) := c_pick d.law_pick d.T C_taken
  have C_wishes : Ca P w K mg base 3 "_law_wishes" (sp_wishes K) := c_wishes d.law_wishes d.T C_taken C_pick
  have C_lspots : Ca P w K mg base 1 "_law_spots" (sp_lspots K) := c_lspots d.law_spots d.T
  have C_lratio : Ca P w K mg base 1 "_law_ratio" sp_lratio := c_lratio d.law_ratio d.T
  have C_a0 : Ca P w K mg base 1 "_law_alike" sp_alike0 := c_alike0 d.law_alike d.T
  have C_a1 : Ca P w K mg base 2 "_law_alike" (sp_tupS sp_alike0) := c_alikeS d.law_alike d.T C_a0
  have C_a2 : Ca P w K mg base 3 "_law_alike" (sp_tupS (sp_tupS sp_alike0)) := c_alikeS d.law_alike d.T C_a1
  have O0 : Ca P w K mg base 1 "_law_orders" (sp_lorders K 0) := c_lorders0 d.law_orders d.T
  have O1 : Ca P w K mg base 2 "_law_orders" (sp_lorders K 1) := c_lorders 1 0 (by decide) d.law_orders d.T O0
  have O2 : Ca P w K mg base 3 "_law_orders" (sp_lorders K 2) := c_lorders 2 1 (by decide) d.law_orders d.T O1
  have O3 : Ca P w K mg base 4 "_law_orders" (sp_lorders K 3) := c_lorders 3 2 (by decide) d.law_orders d.T O2
  have O4 : Ca P w K mg base 5 "_law_orders" (sp_lorders K 4) := c_lorders 4 3 (by decide) d.law_orders d.T O3
  exact c_law M M2 F d.T C_taken C_wishes C_lspots C_lratio O4 C_a0 C_a1 C_a2 C_fewest C_shows C_spot_chances C_mean
end Px
namespace Px
open PySem L2 PyProof.Rows Kx Tx Ma
theorem tab_ok {K : PySem.W.Frag} {h : Heap} {mg mb : Str → Option Value} {q : Program} {lo : List Str} {mean : ExcName → Option Value} {x : Str} {c P : Addr} (X : K.In h) (TT : Top q lo mean mg mb h) (t : PySem.W.tabIn K x = some (c, P)) (r : ((recsOf q).find? (fun e : DefRec => e.name == x)).isSome = true) :
    PySem.W.CodeHd h c P ∧ h.get? P = some { cls := .none, data := .fields #[] } := by
  obtain ⟨d, hd⟩ := Option.isSome_iff_exists.mp r
  exact PySem.W.tab_of TT X hd t
theorem law_all {l : PySem.W.OpenLaw} {w : World} {K : PySem.W.Frag} {h : Heap} {mg mb : Str → Option Value} {q : Program} {lo : List Str} {mean : ExcName → Option Value} {fa c1 c2 c3 c4 P1 P2 P3 P4 : Addr} (M : MathF) (M2 : MathE) (X : K.In h) (TT : Top q lo mean mg mb h) (hfa : mg "law" = some (.ref fa))
    {f_0 : Addr} {od_0 an_0 : Option Addr} {sl_0 : Array (Option Value)} {oc_0 kV_0 dc_0 pm_0 cd_0 ct_0 : Value}
    {f_1 : Addr} {od_1 an_1 : Option Addr} {sl_1 : Array (Option Value)} {oc_1 kV_1 dc_1 pm_1 cd_1 ct_1 : Value}
    {f_2 : Addr} {od_2 an_2 : Option Addr} {sl_2 : Array (Option Value)} {oc_2 kV_2 dc_2 pm_2 ct_2 : Value}
    {f_3 : Addr} {od_3 an_3 : Option Addr} {sl_3 : Array (Option Value)} {oc_3 kV_3 dc_3 pm_3 cd_3 ct_3 : Value}
    {f_4 : Addr} {od_4 an_4 : Option Addr} {sl_4 : Array (Option Value)} {oc_4 kV_4 dc_4 pm_4 ct_4 : Value}
    {f_5 : Addr} {od_5 an_5 : Option Addr} {sl_5 : Array (Option Value)} {oc_5 kV_5 dc_5 pm_5 cd_5 ct_5 : Value}
    {f_6 : Addr} {od_6 an_6 : Option Addr} {sl_6 : Array (Option Value)} {oc_6 kV_6 dc_6 pm_6 cd_6 ct_6 : Value}
    {f_7 : Addr} {od_7 an_7 : Option Addr} {sl_7 : Array (Option Value)} {oc_7 kV_7 dc_7 pm_7 cd_7 ct_7 : Value}
    {f_8 : Addr} {od_8 an_8 : Option Addr} {sl_8 : Array (Option Value)} {oc_8 kV_8 dc_8 pm_8 cd_8 ct_8 : Value}
    {f_9 : Addr} {od_9 an_9 : Option Addr} {sl_9 : Array (Option Value)} {oc_9 kV_9 dc_9 pm_9 cd_9 ct_9 : Value}
    {f_10 : Addr} {od_10 an_10 : Option Addr} {sl_10 : Array (Option Value)} {oc_10 kV_10 dc_10 pm_10 cd_10 ct_10 : Value}
    {f_11 : Addr} {od_11 an_11 : Option Addr} {sl_11 : Array (Option Value)} {oc_11 kV_11 dc_11 pm_11 cd_11 ct_11 : Value}
    {f_12 : Addr} {od_12 an_12 : Option Addr} {sl_12 : Array (Option Value)} {oc_12 kV_12 dc_12 pm_12 cd_12 ct_12 : Value}
    {f_13 : Addr} {od_13 an_13 : Option Addr} {sl_13 : Array (Option Value)} {oc_13 kV_13 dc_13 pm_13 cd_13 ct_13 : Value}
    {f_14 : Addr} {od_14 an_14 : Option Addr} {sl_14 : Array (Option Value)} {oc_14 kV_14 dc_14 pm_14 cd_14 ct_14 : Value}
    {f_15 : Addr} {od_15 an_15 : Option Addr} {sl_15 : Array (Option Value)} {oc_15 kV_15 dc_15 pm_15 ct_15 : Value}
    {f_16 : Addr} {od_16 an_16 : Option Addr} {sl_16 : Array (Option Value)} {oc_16 kV_16 dc_16 pm_16 cd_16 ct_16 : Value}
    {f_17 : Addr} {od_17 an_17 : Option Addr} {sl_17 : Array (Option Value)} {oc_17 kV_17 dc_17 pm_17 cd_17 ct_17 : Value}
    {f_18 : Addr} {od_18 an_18 : Option Addr} {sl_18 : Array (Option Value)} {oc_18 kV_18 dc_18 pm_18 cd_18 ct_18 : Value}
    {f_19 : Addr} {od_19 an_19 : Option Addr} {sl_19 : Array (Option Value)} {oc_19 kV_19 dc_19 pm_19 cd_19 ct_19 : Value}
    {f_20 : Addr} {od_20 an_20 : Option Addr} {sl_20 : Array (Option Value)} {oc_20 kV_20 dc_20 pm_20 ct_20 : Value}
    {f_21 : Addr} {od_21 an_21 : Option Addr} {sl_21 : Array (Option Value)} {oc_21 kV_21 dc_21 pm_21 cd_21 ct_21 : Value}
    {f_22 : Addr} {od_22 an_22 : Option Addr} {sl_22 : Array (Option Value)} {oc_22 kV_22 dc_22 pm_22 cd_22 ct_22 : Value}
    {f_23 : Addr} {od_23 an_23 : Option Addr} {sl_23 : Array (Option Value)} {oc_23 kV_23 dc_23 pm_23 cd_23 ct_23 : Value}
    {f_24 : Addr} {od_24 an_24 : Option Addr} {sl_24 : Array (Option Value)} {oc_24 kV_24 dc_24 pm_24 cd_24 ct_24 : Value}
    {f_25 : Addr} {od_25 an_25 : Option Addr} {sl_25 : Array (Option Value)} {oc_25 kV_25 dc_25 pm_25 cd_25 ct_25 : Value}
    {f_26 : Addr} {od_26 an_26 : Option Addr} {sl_26 : Array (Option Value)} {oc_26 kV_26 dc_26 pm_26 cd_26 ct_26 : Value}
    {f_27 : Addr} {od_27 an_27 : Option Addr} {sl_27 : Array (Option Value)} {oc_27 kV_27 dc_27 pm_27 cd_27 ct_27 : Value}
    {f_28 : Addr} {od_28 an_28 : Option Addr} {sl_28 : Array (Option Value)} {oc_28 kV_28 dc_28 pm_28 cd_28 ct_28 : Value}
    {f_29 : Addr} {od_29 an_29 : Option Addr} {sl_29 : Array (Option Value)} {oc_29 kV_29 dc_29 pm_29 cd_29 ct_29 : Value}
    {f_30 : Addr} {od_30 an_30 : Option Addr} {sl_30 : Array (Option Value)} {oc_30 kV_30 dc_30 pm_30 cd_30 ct_30 : Value}
    {f_31 : Addr} {od_31 an_31 : Option Addr} {sl_31 : Array (Option Value)} {oc_31 kV_31 dc_31 pm_31 cd_31 ct_31 : Value}
    {f_32 : Addr} {od_32 an_32 : Option Addr} {sl_32 : Array (Option Value)} {oc_32 kV_32 dc_32 pm_32 cd_32 ct_32 : Value}
    (a_0 : PySem.W.nsIn K mainGlobals "is_in" = some (some (.ref f_0)))
    (l_0 : K.lookup f_0 = some ⟨oc_0, od_0, .func (PySem.W.fnOf "is_in" "is_in" (defArgs s_is_in) (defBody s_is_in) (defScope s_is_in) .none kV_0 dc_0 pm_0 an_0 cd_0 ct_0), sl_0⟩) (k1_0 : PySem.W.codeIn K cd_0 "is_in" = true) (k2_0 : PySem.W.keepIn K (.ref f_0) = true)
    (a_1 : PySem.W.nsIn K mainGlobals "need_size" = some (some (.ref f_1)))
    (l_1 : K.lookup f_1 = some ⟨oc_1, od_1, .func (PySem.W.fnOf "need_size" "need_size" (defArgs s_need_size) (defBody s_need_size) (defScope s_need_size) .none kV_1 dc_1 pm_1 an_1 cd_1 ct_1), sl_1⟩) (k1_1 : PySem.W.codeIn K cd_1 "need_size" = true) (k2_1 : PySem.W.keepIn K (.ref f_1) = true)
    (a_2 : PySem.W.nsIn K mainGlobals "are_wishes" = some (some (.ref f_2)))
    (l_2 : K.lookup f_2 = some ⟨oc_2, od_2, .func (PySem.W.fnOf "are_wishes" "are_wishes" (defArgs s_are_wishes) (defBody s_are_wishes) (defScope s_are_wishes) .none kV_2 dc_2 pm_2 an_2 (.ref c1) ct_2), sl_2⟩) (k1_2 : PySem.W.codeIn K (.ref c1) "are_wishes" = true) (k2_2 : PySem.W.keepIn K (.ref f_2) = true)
    (a_3 : PySem.W.nsIn K mainGlobals "need_wishes" = some (some (.ref f_3)))
    (l_3 : K.lookup f_3 = some ⟨oc_3, od_3, .func (PySem.W.fnOf "need_wishes" "need_wishes" (defArgs s_need_wishes) (defBody s_need_wishes) (defScope s_need_wishes) .none kV_3 dc_3 pm_3 an_3 cd_3 ct_3), sl_3⟩) (k1_3 : PySem.W.codeIn K cd_3 "need_wishes" = true) (k2_3 : PySem.W.keepIn K (.ref f_3) = true)
    (a_4 : PySem.W.nsIn K mainGlobals "is_set" = some (some (.ref f_4)))
    (l_4 : K.lookup f_4 = some ⟨oc_4, od_4, .func (PySem.W.fnOf "is_set" "is_set" (defArgs s_is_set) (defBody s_is_set) (defScope s_is_set) .none kV_4 dc_4 pm_4 an_4 (.ref c2) ct_4), sl_4⟩) (k1_4 : PySem.W.codeIn K (.ref c2) "is_set" = true) (k2_4 : PySem.W.keepIn K (.ref f_4) = true)
    (a_5 : PySem.W.nsIn K mainGlobals "spots_of" = some (some (.ref f_5)))
    (l_5 : K.lookup f_5 = some ⟨oc_5, od_5, .func (PySem.W.fnOf "spots_of" "spots_of" (defArgs s_spots_of) (defBody s_spots_of) (defScope s_spots_of) .none kV_5 dc_5 pm_5 an_5 cd_5 ct_5), sl_5⟩) (k1_5 : PySem.W.codeIn K cd_5 "spots_of" = true) (k2_5 : PySem.W.keepIn K (.ref f_5) = true)
    (a_6 : PySem.W.nsIn K mainGlobals "everything" = some (some (.ref f_6)))
    (l_6 : K.lookup f_6 = some ⟨oc_6, od_6, .func (PySem.W.fnOf "everything" "everything" (defArgs s_everything) (defBody s_everything) (defScope s_everything) .none kV_6 dc_6 pm_6 an_6 cd_6 ct_6), sl_6⟩) (k1_6 : PySem.W.codeIn K cd_6 "everything" = true) (k2_6 : PySem.W.keepIn K (.ref f_6) = true)
    (a_7 : PySem.W.nsIn K mainGlobals "blocks_of" = some (some (.ref f_7)))
    (l_7 : K.lookup f_7 = some ⟨oc_7, od_7, .func (PySem.W.fnOf "blocks_of" "blocks_of" (defArgs s_blocks_of) (defBody s_blocks_of) (defScope s_blocks_of) .none kV_7 dc_7 pm_7 an_7 cd_7 ct_7), sl_7⟩) (k1_7 : PySem.W.codeIn K cd_7 "blocks_of" = true) (k2_7 : PySem.W.keepIn K (.ref f_7) = true)
    (a_8 : PySem.W.nsIn K mainGlobals "block_places" = some (some (.ref f_8)))
    (l_8 : K.lookup f_8 = some ⟨oc_8, od_8, .func (PySem.W.fnOf "block_places" "block_places" (defArgs s_block_places) (defBody s_block_places) (defScope s_block_places) .none kV_8 dc_8 pm_8 an_8 cd_8 ct_8), sl_8⟩) (k1_8 : PySem.W.codeIn K cd_8 "block_places" = true) (k2_8 : PySem.W.keepIn K (.ref f_8) = true)
    (a_9 : PySem.W.nsIn K mainGlobals "ratio" = some (some (.ref f_9)))
    (l_9 : K.lookup f_9 = some ⟨oc_9, od_9, .func (PySem.W.fnOf "ratio" "ratio" (defArgs s_ratio) (defBody s_ratio) (defScope s_ratio) .none kV_9 dc_9 pm_9 an_9 cd_9 ct_9), sl_9⟩) (k1_9 : PySem.W.codeIn K cd_9 "ratio" = true) (k2_9 : PySem.W.keepIn K (.ref f_9) = true)
    (a_10 : PySem.W.nsIn K mainGlobals "plus" = some (some (.ref f_10)))
    (l_10 : K.lookup f_10 = some ⟨oc_10, od_10, .func (PySem.W.fnOf "plus" "plus" (defArgs s_plus) (defBody s_plus) (defScope s_plus) .none kV_10 dc_10 pm_10 an_10 cd_10 ct_10), sl_10⟩) (k1_10 : PySem.W.codeIn K cd_10 "plus" = true) (k2_10 : PySem.W.keepIn K (.ref f_10) = true)
    (a_11 : PySem.W.nsIn K mainGlobals "by" = some (some (.ref f_11)))
    (l_11 : K.lookup f_11 = some ⟨oc_11, od_11, .func (PySem.W.fnOf "by" "by" (defArgs s_by) (defBody s_by) (defScope s_by) .none kV_11 dc_11 pm_11 an_11 cd_11 ct_11), sl_11⟩) (k1_11 : PySem.W.codeIn K cd_11 "by" = true) (k2_11 : PySem.W.keepIn K (.ref f_11) = true)
    (a_12 : PySem.W.nsIn K mainGlobals "sum_of" = some (some (.ref f_12)))
    (l_12 : K.lookup f_12 = some ⟨oc_12, od_12, .func (PySem.W.fnOf "sum_of" "sum_of" (defArgs s_sum_of) (defBody s_sum_of) (defScope s_sum_of) .none kV_12 dc_12 pm_12 an_12 cd_12 ct_12), sl_12⟩) (k1_12 : PySem.W.codeIn K cd_12 "sum_of" = true) (k2_12 : PySem.W.keepIn K (.ref f_12) = true)
    (a_13 : PySem.W.nsIn K mainGlobals "need_index" = some (some (.ref f_13)))
    (l_13 : K.lookup f_13 = some ⟨oc_13, od_13, .func (PySem.W.fnOf "need_index" "need_index" (defArgs s_need_index) (defBody s_need_index) (defScope s_need_index) .none kV_13 dc_13 pm_13 an_13 cd_13 ct_13), sl_13⟩) (k1_13 : PySem.W.codeIn K cd_13 "need_index" = true) (k2_13 : PySem.W.keepIn K (.ref f_13) = true)
    (a_14 : PySem.W.nsIn K mainGlobals "need_goal" = some (some (.ref f_14)))
    (l_14 : K.lookup f_14 = some ⟨oc_14, od_14, .func (PySem.W.fnOf "need_goal" "need_goal" (defArgs s_need_goal) (defBody s_need_goal) (defScope s_need_goal) .none kV_14 dc_14 pm_14 an_14 cd_14 ct_14), sl_14⟩) (k1_14 : PySem.W.codeIn K cd_14 "need_goal" = true) (k2_14 : PySem.W.keepIn K (.ref f_14) = true)
    (a_15 : PySem.W.nsIn K mainGlobals "is_kept" = some (some (.ref f_15)))
    (l_15 : K.lookup f_15 = some ⟨oc_15, od_15, .func (PySem.W.fnOf "is_kept" "is_kept" (defArgs s_is_kept) (defBody s_is_kept) (defScope s_is_kept) .none kV_15 dc_15 pm_15 an_15 (.ref c3) ct_15), sl_15⟩) (k1_15 : PySem.W.codeIn K (.ref c3) "is_kept" = true) (k2_15 : PySem.W.keepIn K (.ref f_15) = true)
    (a_16 : PySem.W.nsIn K mainGlobals "kept_of" = some (some (.ref f_16)))
    (l_16 : K.lookup f_16 = some ⟨oc_16, od_16, .func (PySem.W.fnOf "kept_of" "kept_of" (defArgs s_kept_of) (defBody s_kept_of) (defScope s_kept_of) .none kV_16 dc_16 pm_16 an_16 cd_16 ct_16), sl_16⟩) (k1_16 : PySem.W.codeIn K cd_16 "kept_of" = true) (k2_16 : PySem.W.keepIn K (.ref f_16) = true)
    (a_17 : PySem.W.nsIn K mainGlobals "ranked" = some (some (.ref f_17)))
    (l_17 : K.lookup f_17 = some ⟨oc_17, od_17, .func (PySem.W.fnOf "ranked" "ranked" (defArgs s_ranked) (defBody s_ranked) (defScope s_ranked) .none kV_17 dc_17 pm_17 an_17 cd_17 ct_17), sl_17⟩) (k1_17 : PySem.W.codeIn K cd_17 "ranked" = true) (k2_17 : PySem.W.keepIn K (.ref f_17) = true)
    (a_18 : PySem.W.nsIn K mainGlobals "changed" = some (some (.ref f_18)))
    (l_18 : K.lookup f_18 = some ⟨oc_18, od_18, .func (PySem.W.fnOf "changed" "changed" (defArgs s_changed) (defBody s_changed) (defScope s_changed) .none kV_18 dc_18 pm_18 an_18 cd_18 ct_18), sl_18⟩) (k1_18 : PySem.W.codeIn K cd_18 "changed" = true) (k2_18 : PySem.W.keepIn K (.ref f_18) = true)
    (a_19 : PySem.W.nsIn K mainGlobals "fewest_changes" = some (some (.ref f_19)))
    (l_19 : K.lookup f_19 = some ⟨oc_19, od_19, .func (PySem.W.fnOf "fewest_changes" "fewest_changes" (defArgs s_fewest_changes) (defBody s_fewest_changes) (defScope s_fewest_changes) .none kV_19 dc_19 pm_19 an_19 cd_19 ct_19), sl_19⟩) (k1_19 : PySem.W.codeIn K cd_19 "fewest_changes" = true) (k2_19 : PySem.W.keepIn K (.ref f_19) = true)
    (a_20 : PySem.W.nsIn K mainGlobals "shows_changes" = some (some (.ref f_20)))
    (l_20 : K.lookup f_20 = some ⟨oc_20, od_20, .func (PySem.W.fnOf "shows_changes" "shows_changes" (defArgs s_shows_changes) (defBody s_shows_changes) (defScope s_shows_changes) .none kV_20 dc_20 pm_20 an_20 (.ref c4) ct_20), sl_20⟩) (k1_20 : PySem.W.codeIn K (.ref c4) "shows_changes" = true) (k2_20 : PySem.W.keepIn K (.ref f_20) = true)
    (a_21 : PySem.W.nsIn K mainGlobals "spot_row" = some (some (.ref f_21)))
    (l_21 : K.lookup f_21 = some ⟨oc_21, od_21, .func (PySem.W.fnOf "spot_row" "spot_row" (defArgs s_spot_row) (defBody s_spot_row) (defScope s_spot_row) .none kV_21 dc_21 pm_21 an_21 cd_21 ct_21), sl_21⟩) (k1_21 : PySem.W.codeIn K cd_21 "spot_row" = true) (k2_21 : PySem.W.keepIn K (.ref f_21) = true)
    (a_22 : PySem.W.nsIn K mainGlobals "orders" = some (some (.ref f_22)))
    (l_22 : K.lookup f_22 = some ⟨oc_22, od_22, .func (PySem.W.fnOf "orders" "orders" (defArgs s_orders) (defBody s_orders) (defScope s_orders) .none kV_22 dc_22 pm_22 an_22 cd_22 ct_22), sl_22⟩) (k1_22 : PySem.W.codeIn K cd_22 "orders" = true) (k2_22 : PySem.W.keepIn K (.ref f_22) = true)
    (a_23 : PySem.W.nsIn K mainGlobals "spot_chances" = some (some (.ref f_23)))
    (l_23 : K.lookup f_23 = some ⟨oc_23, od_23, .func (PySem.W.fnOf "spot_chances" "spot_chances" (defArgs s_spot_chances) (defBody s_spot_chances) (defScope s_spot_chances) .none kV_23 dc_23 pm_23 an_23 cd_23 ct_23), sl_23⟩) (k1_23 : PySem.W.codeIn K cd_23 "spot_chances" = true) (k2_23 : PySem.W.keepIn K (.ref f_23) = true)
    (a_24 : PySem.W.nsIn K mainGlobals "mean_walk_of" = some (some (.ref f_24)))
    (l_24 : K.lookup f_24 = some ⟨oc_24, od_24, .func (PySem.W.fnOf "mean_walk_of" "mean_walk_of" (defArgs s_mean_walk_of) (defBody s_mean_walk_of) (defScope s_mean_walk_of) .none kV_24 dc_24 pm_24 an_24 cd_24 ct_24), sl_24⟩) (k1_24 : PySem.W.codeIn K cd_24 "mean_walk_of" = true) (k2_24 : PySem.W.keepIn K (.ref f_24) = true)
    (a_25 : PySem.W.nsIn K mainGlobals "_law_taken" = some (some (.ref f_25)))
    (l_25 : K.lookup f_25 = some ⟨oc_25, od_25, .func (PySem.W.fnOf "_law_taken" "_law_taken" (defArgs s_law_taken) (defBody s_law_taken) (defScope s_law_taken) .none kV_25 dc_25 pm_25 an_25 cd_25 ct_25), sl_25⟩) (k1_25 : PySem.W.codeIn K cd_25 "_law_taken" = true) (k2_25 : PySem.W.keepIn K (.ref f_25) = true)
    (a_26 : PySem.W.nsIn K mainGlobals "_law_pick" = some (some (.ref f_26)))
    (l_26 : K.lookup f_26 = some ⟨oc_26, od_26, .func (PySem.W.fnOf "_law_pick" "_law_pick" (defArgs s_law_pick) (defBody s_law_pick) (defScope s_law_pick) .none kV_26 dc_26 pm_26 an_26 cd_26 ct_26), sl_26⟩) (k1_26 : PySem.W.codeIn K cd_26 "_law_pick" = true) (k2_26 : PySem.W.keepIn K (.ref f_26) = true)
    (a_27 : PySem.W.nsIn K mainGlobals "_law_alike" = some (some (.ref f_27)))
    (l_27 : K.lookup f_27 = some ⟨oc_27, od_27, .func (PySem.W.fnOf "_law_alike" "_law_alike" (defArgs s_law_alike) (defBody s_law_alike) (defScope s_law_alike) .none kV_27 dc_27 pm_27 an_27 cd_27 ct_27), sl_27⟩) (k1_27 : PySem.W.codeIn K cd_27 "_law_alike" = true) (k2_27 : PySem.W.keepIn K (.ref f_27) = true)
    (a_28 : PySem.W.nsIn K mainGlobals "_law_ratio" = some (some (.ref f_28)))
    (l_28 : K.lookup f_28 = some ⟨oc_28, od_28, .func (PySem.W.fnOf "_law_ratio" "_law_ratio" (defArgs s_law_ratio) (defBody s_law_ratio) (defScope s_law_ratio) .none kV_28 dc_28 pm_28 an_28 cd_28 ct_28), sl_28⟩) (k1_28 : PySem.W.codeIn K cd_28 "_law_ratio" = true) (k2_28 : PySem.W.keepIn K (.ref f_28) = true)
    (a_29 : PySem.W.nsIn K mainGlobals "_law_spots" = some (some (.ref f_29)))
    (l_29 : K.lookup f_29 = some ⟨oc_29, od_29, .func (PySem.W.fnOf "_law_spots" "_law_spots" (defArgs s_law_spots) (defBody s_law_spots) (defScope s_law_spots) .none kV_29 dc_29 pm_29 an_29 cd_29 ct_29), sl_29⟩) (k1_29 : PySem.W.codeIn K cd_29 "_law_spots" = true) (k2_29 : PySem.W.keepIn K (.ref f_29) = true)
    (a_30 : PySem.W.nsIn K mainGlobals "_law_wishes" = some (some (.ref f_30)))
    (l_30 : K.lookup f_30 = some ⟨oc_30, od_30, .func (PySem.W.fnOf "_law_wishes" "_law_wishes" (defArgs s_law_wishes) (defBody s_law_wishes) (defScope s_law_wishes) .none kV_30 dc_30 pm_30 an_30 cd_30 ct_30), sl_30⟩) (k1_30 : PySem.W.codeIn K cd_30 "_law_wishes" = true) (k2_30 : PySem.W.keepIn K (.ref f_30) = true)
    (a_31 : PySem.W.nsIn K mainGlobals "_law_orders" = some (some (.ref f_31)))
    (l_31 : K.lookup f_31 = some ⟨oc_31, od_31, .func (PySem.W.fnOf "_law_orders" "_law_orders" (defArgs s_law_orders) (defBody s_law_orders) (defScope s_law_orders) .none kV_31 dc_31 pm_31 an_31 cd_31 ct_31), sl_31⟩) (k1_31 : PySem.W.codeIn K cd_31 "_law_orders" = true) (k2_31 : PySem.W.keepIn K (.ref f_31) = true)
    (a_32 : PySem.W.nsIn K mainGlobals "law" = some (some (.ref f_32)))
    (l_32 : K.lookup f_32 = some ⟨oc_32, od_32, .func (PySem.W.fnOf "law" "law" (defArgs s_law) (defBody s_law) (defScope s_law) .none kV_32 dc_32 pm_32 an_32 cd_32 ct_32), sl_32⟩) (k1_32 : PySem.W.codeIn K cd_32 "law" = true) (k2_32 : PySem.W.keepIn K (.ref f_32) = true)
    (z_0 : PySem.W.nsIn K mainGlobals "isinstance" = some none)
    (z_1 : PySem.W.nsIn K mainGlobals "len" = some none)
    (z_2 : PySem.W.nsIn K mainGlobals "all" = some none)
    (z_3 : PySem.W.nsIn K mainGlobals "any" = some none)
    (z_4 : PySem.W.nsIn K mainGlobals "sorted" = some none)
    (z_5 : PySem.W.nsIn K mainGlobals "min" = some none)
    (z_6 : PySem.W.nsIn K mainGlobals "abs" = some none)
    (z_7 : PySem.W.nsIn K mainGlobals "int" = some none)
    (z_8 : PySem.W.nsIn K mainGlobals "bool" = some none)
    (z_9 : PySem.W.nsIn K mainGlobals "tuple" = some none)
    (z_10 : PySem.W.nsIn K mainGlobals "list" = some none)
    (z_11 : PySem.W.nsIn K mainGlobals "str" = some none)
    (z_12 : PySem.W.nsIn K mainGlobals "range" = some none)
    (z_13 : PySem.W.nsIn K mainGlobals "enumerate" = some none)
    (z_14 : PySem.W.nsIn K mainGlobals "zip" = some none)
    (zg : PySem.W.nsIn K mainGlobals "gcd" = some (some (.builtin "math.gcd")))
    {vl vm : Value} (zl : PySem.W.nsIn K mainGlobals "LEAST_SIZE" = some (some vl)) (zm : PySem.W.nsIn K mainGlobals "MOST_SIZE" = some (some vm)) (zle : ∃ t, vl = .int 2 t) (zme : ∃ t, vm = .int 9 t)
    (t_0 : PySem.W.tabIn K "are_wishes" = some (c1, P1)) (n_0 : K.lookup P1 = none) (r_0 : ((recsOf q).find? (fun e : DefRec => e.name == ("are_wishes" : Str))).isSome = true)
    (t_1 : PySem.W.tabIn K "is_set" = some (c2, P2)) (n_1 : K.lookup P2 = none) (r_1 : ((recsOf q).find? (fun e : DefRec => e.name == ("is_set" : Str))).isSome = true)
    (t_2 : PySem.W.tabIn K "is_kept" = some (c3, P3)) (n_2 : K.lookup P3 = none) (r_2 : ((recsOf q).find? (fun e : DefRec => e.name == ("is_kept" : Str))).isSome = true)
    (t_3 : PySem.W.tabIn K "shows_changes" = some (c4, P4)) (n_3 : K.lookup P4 = none) (r_3 : ((recsOf q).find? (fun e : DefRec => e.name == ("shows_changes" : Str))).isSome = true) :
    LamX.LawAtS l w K CX0 10 63 "_law_script" mg fa h := by
  have G := TT.g
  have D : AllD K mg c1 c2 c3 c4 := ⟨⟨PySem.W.mg_none_of X G z_0, PySem.W.mg_none_of X G z_1, PySem.W.mg_none_of X G z_2, PySem.W.mg_none_of X G z_3, PySem.W.mg_none_of X G z_4, PySem.W.mg_none_of X G z_5, PySem.W.mg_none_of X G z_6, PySem.W.mg_none_of X G z_7, PySem.W.mg_none_of X G z_8, PySem.W.mg_none_of X G z_9, PySem.W.mg_none_of X G z_10, PySem.W.mg_none_of X G z_11, PySem.W.mg_none_of X G z_12, PySem.W.mg_none_of X G z_13, PySem.W.mg_none_of X G z_14, PySem.W.mg_of X G zg, ls_mk X G zl zle, ls_mk X G zm zme⟩,
    d0_mk X G a_0 l_0 k1_0 k2_0 (fun _ _ _ _ _ _ us hl => match us, hl with | [_, _, _], _ => rfl),
    d0_mk X G a_1 l_1 k1_1 k2_1 (fun _ _ _ _ _ _ us hl => match us, hl with | [_], _ => rfl),
    d1_mk X G a_2 l_2 k1_2 k2_2 (fun _ _ _ _ _ _ us hl => match us, hl with | [_, _], _ => rfl),
    d0_mk X G a_3 l_3 k1_3 k2_3 (fun _ _ _ _ _ _ us hl => match us, hl with | [_, _], _ => rfl),
    d1_mk X G a_4 l_4 k1_4 k2_4 (fun _ _ _ _ _ _ us hl => match us, hl with | [_, _], _ => rfl),
    d0_mk X G a_5 l_5 k1_5 k2_5 (fun _ _ _ _ _ _ us hl => match us, hl with | [_, _], _ => rfl),
    d0_mk X G a_6 l_6 k1_6 k2_6 (fun _ _ _ _ _ _ us hl => match us, hl with | [_], _ => rfl),
    d0_mk X G a_7 l_7 k1_7 k2_7 (fun _ _ _ _ _ _ us hl => match us, hl with | [_, _], _ => rfl),
    d0_mk X G a_8 l_8 k1_8 k2_8 (fun _ _ _ _ _ _ us hl => match us, hl with | [_, _], _ => rfl),
    d0_mk X G a_9 l_9 k1_9 k2_9 (fun _ _ _ _ _ _ us hl => match us, hl with | [_, _], _ => rfl),
    d0_mk X G a_10 l_10 k1_10 k2_10 (fun _ _ _ _ _ _ us hl => match us, hl with | [_, _], _ => rfl),
    d0_mk X G a_11 l_11 k1_11 k2_11 (fun _ _ _ _ _ _ us hl => match us, hl with | [_, _], _ => rfl),
    d0_mk X G a_12 l_12 k1_12 k2_12 (fun _ _ _ _ _ _ us hl => match us, hl with | [_], _ => rfl),
    d0_mk X G a_13 l_13 k1_13 k2_13 (fun _ _ _ _ _ _ us hl => match us, hl with | [_, _, _], _ => rfl),
    d0_mk X G a_14 l_14 k1_14 k2_14 (fun _ _ _ _ _ _ us hl => match us, hl with | [_, _, _], _ => rfl),
    d1_mk X G a_15 l_15 k1_15 k2_15 (fun _ _ _ _ _ _ us hl => match us, hl with | [_, _, _, _], _ => rfl),
    d0_mk X G a_16 l_16 k1_16 k2_16 (fun _ _ _ _ _ _ us hl => match us, hl with | [_, _, _], _ => rfl),
    d0_mk X G a_17 l_17 k1_17 k2_17 (fun _ _ _ _ _ _ us hl => match us, hl with | [_, _], _ => rfl),
    d0_mk X G a_18 l_18 k1_18 k2_18 (fun _ _ _ _ _ _ us hl => match us, hl with | [_, _, _], _ => rfl),
    d0_mk X G a_19 l_19 k1_19 k2_19 (fun _ _ _ _ _ _ us hl => match us, hl with | [_, _, _], _ => rfl),
    d1_mk X G a_20 l_20 k1_20 k2_20 (fun _ _ _ _ _ _ us hl => match us, hl with | [_, _, _, _], _ => rfl),
    d0_mk X G a_21 l_21 k1_21 k2_21 (fun _ _ _ _ _ _ us hl => match us, hl with | [_, _, _], _ => rfl),
    d0_mk X G a_22 l_22 k1_22 k2_22 (fun _ _ _ _ _ _ us hl => match us, hl with | [_], _ => rfl),
    d0_mk X G a_23 l_23 k1_23 k2_23 (fun _ _ _ _ _ _ us hl => match us, hl with | [_, _, _], _ => rfl),
    d0_mk X G a_24 l_24 k1_24 k2_24 (fun _ _ _ _ _ _ us hl => match us, hl with | [_, _, _], _ => rfl),
    d0_mk X G a_25 l_25 k1_25 k2_25 (fun _ _ _ _ _ _ us hl => match us, hl with | [_, _], _ => rfl),
    d0_mk X G a_26 l_26 k1_26 k2_26 (fun _ _ _ _ _ _ us hl => match us, hl with | [_, _], _ => rfl),
    d0_mk X G a_27 l_27 k1_27 k2_27 (fun _ _ _ _ _ _ us hl => match us, hl with | [_, _], _ => rfl),
    d0_mk X G a_28 l_28 k1_28 k2_28 (fun _ _ _ _ _ _ us hl => match us, hl with | [_, _], _ => rfl),
    d0_mk X G a_29 l_29 k1_29 k2_29 (fun _ _ _ _ _ _ us hl => match us, hl with | [_, _], _ => rfl),
    d0_mk X G a_30 l_30 k1_30 k2_30 (fun _ _ _ _ _ _ us hl => match us, hl with | [_, _], _ => rfl),
    d0_mk X G a_31 l_31 k1_31 k2_31 (fun _ _ _ _ _ _ us hl => match us, hl with | [_], _ => rfl)⟩
  have e := hfa.symm.trans (PySem.W.mg_of X G a_32)
  cases e
  obtain ⟨x1, y1⟩ := tab_ok X TT t_0 r_0
  obtain ⟨x2, y2⟩ := tab_ok X TT t_1 r_1
  obtain ⟨x3, y3⟩ := tab_ok X TT t_2 r_2
  obtain ⟨x4, y4⟩ := tab_ok X TT t_3 r_3
  have go4 : ∀ {C : Addr × Addr → Prop}, C (c1, P1) → C (c2, P2) → C (c3, P3) → C (c4, P4) → ∀ p ∈ [(c1, P1), (c2, P2), (c3, P3), (c4, P4)], C p := by
    intro C h1 h2 h3 h4 p hp
    simp only [List.mem_cons, List.mem_nil_iff, or_false] at hp
    rcases hp with rfl | rfl | rfl | rfl
    · exact h1
    · exact h2
    · exact h3
    · exact h4
  refine ⟨PySem.W.fnOf "law" "law" (defArgs s_law) (defBody s_law) (defScope s_law) .none kV_32 dc_32 pm_32 an_32 cd_32 ct_32, [(c1, P1), (c2, P2), (c3, P3), (c4, P4)], sp_law K P1 P2 P3 P4, go4 y1 y2 y3 y4, go4 n_0 n_1 n_2 n_3, go4 x1 x2 x3 x4, fun s v => .of_eq rfl, fun H a ns _ _ hT hS => ?_, fun base hb hg hTB => ?_⟩
  · have tg : ∀ p ∈ [(c1, P1), (c2, P2), (c3, P3), (c4, P4)], GxR.TabG H p.2 := fun p hp => ⟨#[], hT p hp, True.intro⟩
    exact ⟨a, ns, rfl, hS, tg (c1, P1) (by simp), tg (c2, P2) (by simp), tg (c3, P3) (by simp), tg (c4, P4) (by simp), fun _ => rfl⟩
  · have tb : ∀ p ∈ [(c1, P1), (c2, P2), (c3, P3), (c4, P4)], GxR.TabB base mg p.1 p.2 := fun p hp => ⟨(hTB p hp).code, (hTB p hp).bm, (hTB p hp).gP⟩
    exact AllD.go (P := l.prog) (w := w) (base := base) (fun_mk (st := s_law) l_32 k1_32 k2_32) D M M2 (tb (c1, P1) (by simp)) (tb (c2, P2) (by simp)) (tb (c3, P3) (by simp)) (tb (c4, P4) (by simp))
end Px
/-! parking, whatever the order -/
namespace Ma
open Px
theorem nx_congr {n : Nat} {T T' : List Nat} (h : ∀ z, z ∈ T ↔ z ∈ T') : ∀ (f x : Nat), nx n T f x = nx n T' f x
  | 0, _ => rfl
  | f + 1, x => by
    unfold nx
    by_cases hx : x ∈ T
    · rw [if_pos hx, if_pos ((h x).mp hx), nx_congr h f]
    · rw [if_neg hx, if_neg (fun z => hx ((h x).mpr z))]
/-- the first free place is where the car goes -/
theorem nx_eq {n : Nat} {T : List Nat} : ∀ {k f x : Nat}, x < n → k < f → (x + k) % n ∉ T → (∀ j, j < k → (x + j) % n ∈ T) → nx n T f x = (x + k) % n
  | 0, f, x, hx, hf, h1, _ => by
    rw [Nat.add_zero, Nat.mod_eq_of_lt hx] at h1
    cases f with
    | zero => omega
    | succ f => unfold nx; rw [if_neg h1, Nat.add_zero, Nat.mod_eq_of_lt hx]
  | k + 1, f, x, hx, hf, h1, h2 => by
    cases f with
    | zero => omega
    | succ f =>
      have h0 := h2 0 (by omega)
      rw [Nat.add_zero, Nat.mod_eq_of_lt hx] at h0
      unfold nx
      rw [if_pos h0]
      have e : ∀ j, ((x + 1) % n + j) % n = (x + (j + 1)) % n := fun j => by rw [Nat.mod_add_mod, show x + 1 + j = x + (j + 1) by omega]
      rw [nx_eq (k := k) (f := f) (x := (x + 1) % n) (Nat.mod_lt _ (by omega)) (by omega) (by rw [e]; exact h1) (fun j hj => by rw [e]; exact h2 (j + 1) (by omega)), e]
/-- through a place that the car takes -/
theorem nx_thru {n x : Nat} {T : List Nat} (hl : T.length + 1 < n) (hx : x < n) : nx n (T ++ [nx n T n x]) n x = nx n (T ++ [nx n T n x]) n (nx n T n x) := by
  obtain ⟨k, hk, e1, e2, e3⟩ := nx_spec (fr_of (show T.length < n by omega) hx)
  rw [e1]
  generalize ha : (x + k) % n = a at e2
  have han : a < n := by rw [← ha]; exact Nat.mod_lt _ (by omega)
  obtain ⟨j, hj, f1, f2, f3⟩ := nx_spec (fr_of (T := T ++ [a]) (show (T ++ [a]).length < n by rw [List.length_append, List.length_singleton]; exact hl) han)
  have e4 : ∀ i, (a + i) % n = (x + (k + i)) % n := fun i => by rw [← ha, Nat.mod_add_mod, Nat.add_assoc]
  rw [f1]
  have hall : ∀ i, i < k + j → (x + i) % n ∈ T ++ [a] := fun i hi => by
    by_cases h : i < k
    · exact List.mem_append_left _ (e3 i h)
    · have := f3 (i - k) (by omega)
      rw [e4, show k + (i - k) = i by omega] at this
      exact this
  rw [e4] at f2 ⊢
  have hlt : k + j < n := by
    by_cases h : k + j < n
    · exact h
    · exfalso
      have := hall (k + j - n) (by omega)
      rw [← Nat.add_mod_right, show x + (k + j - n) + n = x + (k + j) by omega] at this
      exact f2 this
  exact nx_eq hx hlt f2 hall
theorem nx_swap {n x y : Nat} {T : List Nat} (hl : T.length + 1 < n) (hx : x < n) (hy : y < n) : ∀ z, z ∈ add1 n (add1 n T x) y ↔ z ∈ add1 n (add1 n T y) x := by
  intro z
  unfold add1
  by_cases hac : nx n T n x = nx n T n y
  · have h1 := nx_thru hl hx
    have h2 := nx_thru hl hy
    rw [hac] at h1
    rw [hac, h1, h2]
  · have key : ∀ u v, u < n → v < n → nx n T n u ≠ nx n T n v → nx n (T ++ [nx n T n u]) n v = nx n T n v := by
      intro u v hu hv hne
      obtain ⟨k, hk, e1, e2, e3⟩ := nx_spec (fr_of (show T.length < n by omega) hv)
      rw [e1] at hne ⊢
      refine nx_eq hv hk ?_ (fun j hj => List.mem_append_left _ (e3 j hj))
      intro h
      rcases List.mem_append.mp h with h | h
      · exact e2 h
      · rw [List.mem_singleton] at h; exact hne h.symm
    rw [key x y hx hy hac, key y x hy hx (fun e => hac e.symm)]
    simp only [List.mem_append, List.mem_singleton]
    constructor
    · rintro ((h | h) | h)
      · exact .inl (.inl h)
      · exact .inr h
      · exact .inl (.inr h)
    · rintro ((h | h) | h)
      · exact .inl (.inl h)
      · exact .inr h
      · exact .inl (.inr h)
theorem fold_congr {n : Nat} : ∀ (L T T' : List Nat), (∀ z, z ∈ T ↔ z ∈ T') → ∀ z, z ∈ L.foldl (add1 n) T ↔ z ∈ L.foldl (add1 n) T'
  | [], T, T', h => h
  | x :: L, T, T', h => by
    rw [List.foldl_cons, List.foldl_cons]
    refine fold_congr L _ _ (fun z => ?_)
    unfold add1
    rw [List.mem_append, List.mem_append, h z, nx_congr h]
theorem fold_perm {n : Nat} {L L' : List Nat} (hp : L.Perm L') : ∀ T : List Nat, T.length + L.length ≤ n → (∀ x ∈ L, x < n) → ∀ z, z ∈ L.foldl (add1 n) T ↔ z ∈ L'.foldl (add1 n) T := by
  induction hp with
  | nil => intro T _ _ z; exact Iff.rfl
  | cons x h ih =>
    intro T hl hx z
    rw [List.foldl_cons, List.foldl_cons]
    rw [List.length_cons] at hl
    exact ih _ (by rw [add1_len]; omega) (fun y hy => hx y (List.mem_cons_of_mem _ hy)) z
  | swap x y l =>
    intro T hl hx z
    rw [List.length_cons, List.length_cons] at hl
    rw [List.foldl_cons, List.foldl_cons, List.foldl_cons, List.foldl_cons]
    exact fold_congr l _ _ (nx_swap (by omega) (hx y List.mem_cons_self) (hx x (List.mem_cons_of_mem _ List.mem_cons_self))) z
  | trans h1 h2 ih1 ih2 =>
    intro T hl hx z
    rw [ih1 T hl hx z]
    exact ih2 T (by rw [← h1.length_eq]; exact hl) (fun x hx' => hx x (h1.mem_iff.mpr hx')) z
theorem spots_perm {n : Nat} {L L' : List Nat} (hp : L.Perm L') (hl : L.length ≤ n) (hx : ∀ x ∈ L, x < n) : ∀ z, z ∈ spots n L ↔ z ∈ spots n L' := fold_perm hp [] (by simpa using hl) hx
theorem fits_perm {n : Nat} {G L L' : List Nat} (hp : L.Perm L') (hl : L.length ≤ n) (hx : ∀ x ∈ L, x < n) : fitsB n G L = fitsB n G L' := by
  unfold fitsB
  rw [Bool.eq_iff_iff, List.all_eq_true, List.all_eq_true]
  constructor
  · intro h z hz; exact h z ((spots_perm hp hl hx z).mpr hz)
  · intro h z hz; exact h z ((spots_perm hp hl hx z).mp hz)
end Ma
/-! the tallies over all orders -/
namespace Ma
open Px
def insN (x : Nat) : List Nat → List Nat
  | [] => [x]
  | y :: l => if x ≤ y then x :: y :: l else y :: insN x l
def sortN : List Nat → List Nat
  | [] => []
  | x :: l => insN x (sortN l)
theorem insN_perm (x : Nat) : ∀ l : List Nat, (insN x l).Perm (x :: l)
  | [] => List.Perm.refl _
  | y :: l => by
    unfold insN
    split
    · exact List.Perm.refl _
    · exact ((insN_perm x l).cons y).trans (List.Perm.swap x y l)
theorem sortN_perm : ∀ l : List Nat, (sortN l).Perm l
  | [] => List.Perm.refl _
  | x :: l => (insN_perm x (sortN l)).trans ((sortN_perm l).cons x)
def preK (k : Nat) (p : List Nat) : List Nat := p.takeWhile fun j => decide (j ≠ k)
theorem pre_split {k : Nat} : ∀ {p : List Nat}, k ∈ p → ∃ post, p = preK k p ++ k :: post ∧ p.idxOf k = (preK k p).length
  | [], h => by simp at h
  | j :: p, h => by
    by_cases hj : j = k
    · subst hj
      refine ⟨p, ?_, ?_⟩
      · unfold preK; simp
      · unfold preK; simp
    · have h2 : k ∈ p := by
        rcases List.mem_cons.mp h with h | h
        · exact absurd h.symm hj
        · exact h
      obtain ⟨post, e1, e2⟩ := pre_split h2
      refine ⟨post, ?_, ?_⟩
      · unfold preK at e1 ⊢
        rw [List.takeWhile_cons, if_pos (decide_eq_true hj), List.cons_append, ← e1]
      · unfold preK at e2 ⊢
        rw [List.takeWhile_cons, if_pos (decide_eq_true hj), List.length_cons, ← e2, List.idxOf_cons]
        rw [show (j == k) = false from beq_false_of_ne hj]
        rfl
theorem fold_pre {n : Nat} : ∀ (L T : List Nat), ∃ S, L.foldl (add1 n) T = T ++ S
  | [], T => ⟨[], by simp⟩
  | x :: L, T => by
    obtain ⟨S, e⟩ := fold_pre L (add1 n T x)
    refine ⟨nx n T n x :: S, ?_⟩
    rw [List.foldl_cons, e]
    unfold add1
    rw [List.append_assoc]
    rfl
theorem at_app (ws A B : List Nat) : at_ ws (A ++ B) = at_ ws A ++ at_ ws B := by unfold at_; rw [List.map_append]
theorem spot_key {n m k : Nat} {ws p : List Nat} (hm : ws.length = m) (hn : m ≤ n) (hw : ∀ x ∈ ws, x < n) (hp : p.Perm (List.range m)) (hk : k < m) : spotP n ws k p = spotOf n ws k (sortN (preK k p)) := by
  have hkp : k ∈ p := hp.mem_iff.mpr (List.mem_range.mpr hk)
  obtain ⟨post, e1, e2⟩ := pre_split hkp
  have hpl : p.length = m := by rw [hp.length_eq, List.length_range]
  have hpre : (preK k p).length < m := by
    have := congrArg List.length e1
    rw [List.length_append, List.length_cons] at this
    omega
  have hlt : ∀ j ∈ preK k p, j < m := fun j hj => List.mem_range.mp (hp.mem_iff.mp (by rw [e1]; exact List.mem_append_left _ hj))
  have hat : ∀ x ∈ at_ ws (preK k p), x < n := fun x hx => by
    unfold at_ at hx
    obtain ⟨j, hj, rfl⟩ := List.mem_map.mp hx
    exact hw _ (List.mem_of_getElem? (get_getD (by rw [hm]; exact hlt j hj)))
  have hal : (at_ ws (preK k p)).length = (preK k p).length := by unfold at_; rw [List.length_map]
  unfold spotP spotOf
  rw [e2]
  have e3 : at_ ws p = at_ ws (preK k p) ++ ws.getD k 0 :: at_ ws post := by
    conv => lhs; rw [e1]
    rw [at_app]
    rfl
  rw [e3]
  have e4 : spots n (at_ ws (preK k p) ++ ws.getD k 0 :: at_ ws post) = (at_ ws post).foldl (add1 n) (add1 n (spots n (at_ ws (preK k p))) (ws.getD k 0)) := by
    unfold spots
    rw [List.foldl_append, List.foldl_cons]
  obtain ⟨S, e5⟩ := fold_pre (n := n) (at_ ws post) (add1 n (spots n (at_ ws (preK k p))) (ws.getD k 0))
  rw [e4, e5]
  have hsl : (spots n (at_ ws (preK k p))).length = (preK k p).length := by rw [spots_len, hal]
  unfold add1
  rw [List.getD_eq_getElem?_getD, List.getElem?_append_left (by rw [List.length_append, List.length_singleton]; omega), List.getElem?_append_right (by omega), hsl, Nat.sub_self]
  show nx n (spots n (at_ ws (preK k p))) n (ws.getD k 0) = _
  refine nx_congr (fun z => ?_) n _
  refine spots_perm ?_ (by rw [hal]; omega) hat z
  exact ((sortN_perm _).symm.map _)
/-! sums -/
theorem sum_add {α : Type} (f g : α → Nat) : ∀ L : List α, (L.map fun x => f x + g x).sum = (L.map f).sum + (L.map g).sum
  | [] => rfl
  | x :: L => by
    rw [List.map_cons, List.map_cons, List.map_cons, List.sum_cons, List.sum_cons, List.sum_cons, sum_add f g L]
    omega
theorem sum_zero {α : Type} : ∀ L : List α, (L.map fun _ => 0).sum = 0
  | [] => rfl
  | x :: L => by rw [List.map_cons, List.sum_cons, sum_zero L]
theorem sum_rep_map {α : Type} (f : α → Nat) (x : α) : ∀ k : Nat, ((List.replicate k x).map f).sum = k * f x
  | 0 => by simp
  | k + 1 => by
    rw [List.replicate_succ, List.map_cons, List.sum_cons, sum_rep_map f x k, Nat.succ_mul]
    omega
theorem sum_flat {α : Type} (w : α → Nat) (f : α → Nat) : ∀ L : List α, ((L.flatMap fun x => List.replicate (w x) x).map f).sum = (L.map fun x => w x * f x).sum
  | [] => rfl
  | x :: L => by
    rw [List.flatMap_cons, List.map_append, List.sum_append, sum_rep_map, sum_flat w f L, List.map_cons, List.sum_cons]
theorem one_at (D : Nat → Nat) (c : Nat) : ∀ n g : Nat, ((List.range n).map fun s => D s * (if g = s then c else 0)).sum = if g < n then D g * c else 0
  | 0, g => by simp
  | n + 1, g => by
    rw [List.range_succ, List.map_append, List.sum_append, one_at D c n g]
    simp only [List.map_cons, List.map_nil, List.sum_cons, List.sum_nil]
    by_cases h1 : g < n
    · rw [if_pos h1, if_neg (by omega), if_pos (by omega)]
      omega
    · by_cases h2 : g = n
      · subst h2
        rw [if_neg h1, if_pos rfl, if_pos (by omega)]
        omega
      · rw [if_neg h1, if_neg h2, if_neg (by omega)]
        rfl
theorem exch {α : Type} (D : Nat → Nat) (g w : α → Nat) (n : Nat) : ∀ L : List α, (∀ B ∈ L, g B < n) → ((List.range n).map fun s => D s * (L.map fun B => if g B = s then w B else 0).sum).sum = (L.map fun B => w B * D (g B)).sum
  | [], _ => by
    have : ((List.range n).map fun s => D s * (([] : List α).map fun B => if g B = s then w B else 0).sum) = (List.range n).map fun _ => 0 := List.map_congr_left fun s _ => rfl
    rw [this, sum_zero]
    rfl
  | B :: L, h => by
    have e : ((List.range n).map fun s => D s * ((B :: L).map fun B => if g B = s then w B else 0).sum) = (List.range n).map fun s => D s * (if g B = s then w B else 0) + D s * (L.map fun B => if g B = s then w B else 0).sum :=
      List.map_congr_left fun s _ => by rw [List.map_cons, List.sum_cons, Nat.mul_add]
    rw [e, sum_add, one_at, if_pos (h B List.mem_cons_self), exch D g w n L (fun x hx => h x (List.mem_cons_of_mem _ hx)), List.map_cons, List.sum_cons, Nat.mul_comm]
theorem addAt_get (cs : List Nat) (a x s : Nat) (hs : s < cs.length) : (addAt cs a x).getD s 0 = cs.getD s 0 + (if a = s then x else 0) := by
  unfold addAt
  rw [List.getD_eq_getElem?_getD, List.getElem?_set]
  by_cases h : a = s
  · subst h
    rw [if_pos rfl, if_pos hs, if_pos rfl]
    rfl
  · rw [if_neg h, if_neg h, List.getD_eq_getElem?_getD]
    rfl
theorem tally {α : Type} (g w : α → Nat) (s : Nat) : ∀ (L : List α) (cs : List Nat), s < cs.length → (L.foldl (fun cs p => addAt cs (g p) (w p)) cs).getD s 0 = cs.getD s 0 + (L.map fun p => if g p = s then w p else 0).sum
  | [], cs, _ => by simp
  | p :: L, cs, hs => by
    rw [List.foldl_cons, tally g w s L _ (by rw [addAt_len]; exact hs), addAt_get _ _ _ _ hs, List.map_cons, List.sum_cons]
    omega
def keyPerm (m k : Nat) : Bool := ((ordersL m).map fun p => sortN (preK k p)).isPerm ((allB m k).flatMap fun B => List.replicate (wgt m B) B)
theorem key_perm {m k : Nat} (hm : m ≤ 4) (hk : k < m) : ((ordersL m).map fun p => sortN (preK k p)).Perm ((allB m k).flatMap fun B => List.replicate (wgt m B) B) := by
  have : ∀ m, m ≤ 4 → ∀ k, k < m → keyPerm m k = true := by decide +kernel
  exact List.isPerm_iff.mp (this m hm k hk)
theorem key_sum {m k : Nat} (hm : m ≤ 4) (hk : k < m) (F : List Nat → Nat) : ((ordersL m).map fun p => F (sortN (preK k p))).sum = ((allB m k).map fun B => wgt m B * F B).sum := by
  have h := ((key_perm hm hk).map F).sum_nat
  rw [sum_flat, List.map_map] at h
  exact h
theorem lwlk_sum (n : Nat) (ws : List Nat) (k : Nat) : ∀ (L : List (List Nat)) (c : Nat), L.foldl (fun c p => c + dist n (ws.getD k 0) (spotP n ws k p)) c = c + (L.map fun p => dist n (ws.getD k 0) (spotP n ws k p)).sum
  | [], c => rfl
  | p :: L, c => by
    rw [List.foldl_cons, lwlk_sum n ws k L, List.map_cons, List.sum_cons]
    omega
theorem rep_get (n s : Nat) : (List.replicate n 0).getD s 0 = 0 := by
  rw [List.getD_eq_getElem?_getD, List.getElem?_replicate]
  split <;> rfl
theorem mathE : MathE := by
  intro n ws k n6 R
  have hm := R.l4
  have hk := R.k
  have hord : ∀ p ∈ ordersL ws.length, p.Perm (List.range ws.length) := fun p hp => permL_perm _ _ p List.length_range hp
  have hspot : ∀ p ∈ ordersL ws.length, spotP n ws k p = spotOf n ws k (sortN (preK k p)) := fun p hp => spot_key rfl R.len R.lt (hord p hp) hk
  have hwkn : ws.getD k 0 < n := R.lt _ (List.mem_of_getElem? (get_getD hk))
  have hBn : ∀ B ∈ allB ws.length k, spotOf n ws k B < n := fun B hB => by
    unfold allB at hB
    obtain ⟨t, ht, hB⟩ := List.mem_flatMap.mp hB
    have ht' := List.mem_range.mp ht
    have hg := rows_good hm hk ht'
    unfold goodB at hg
    rw [Bool.and_eq_true, List.all_eq_true] at hg
    have h1 := hg.2 B hB
    rw [Bool.and_eq_true] at h1
    have hBl := of_decide_eq_true h1.1
    unfold spotOf
    have hl := R.len
    exact nx_lt (fr_of (by rw [spots_len]; unfold at_; rw [List.length_map]; omega) hwkn)
  have hc : ∀ s, s < n → (cnts n ws k).getD s 0 = ((allB ws.length k).map fun B => if spotOf n ws k B = s then wgt ws.length B else 0).sum := fun s hs => by
    have e : cnts n ws k = (allB ws.length k).foldl (fun cs B => addAt cs (spotOf n ws k B) (wgt ws.length B)) (List.replicate n 0) := cntT_fold n ws k ws.length
    rw [e, tally _ _ s _ _ (by rw [List.length_replicate]; exact hs), rep_get, Nat.zero_add]
  constructor
  · have hl1 : (lcntT n ws k (ordersL ws.length)).length = n := by
      unfold lcntT
      have : ∀ (L : List (List Nat)) (cs : List Nat), (L.foldl (fun cs p => addAt cs (spotP n ws k p) 1) cs).length = cs.length := by
        intro L
        induction L with
        | nil => intro cs; rfl
        | cons p L ih => intro cs; rw [List.foldl_cons, ih, addAt_len]
      rw [this, List.length_replicate]
    have hl2 : (cnts n ws k).length = n := cntT_len n ws k ws.length
    apply List.ext_getElem (by rw [hl1, hl2])
    intro s h1 h2
    have hs : s < n := by rw [hl1] at h1; exact h1
    have e1 : (lcntT n ws k (ordersL ws.length))[s] = (lcntT n ws k (ordersL ws.length)).getD s 0 := by rw [List.getD_eq_getElem?_getD, List.getElem?_eq_getElem h1]; rfl
    have e2 : (cnts n ws k)[s] = (cnts n ws k).getD s 0 := by rw [List.getD_eq_getElem?_getD, List.getElem?_eq_getElem h2]; rfl
    rw [e1, e2, hc s hs]
    unfold lcntT
    rw [tally (fun p => spotP n ws k p) (fun _ => 1) s _ _ (by rw [List.length_replicate]; exact hs), rep_get, Nat.zero_add]
    have e3 : ((ordersL ws.length).map fun p => if spotP n ws k p = s then 1 else 0) = (ordersL ws.length).map fun p => (fun B => if spotOf n ws k B = s then 1 else 0) (sortN (preK k p)) :=
      List.map_congr_left fun p hp => by rw [hspot p hp]
    rw [e3, key_sum hm hk (fun B => if spotOf n ws k B = s then 1 else 0)]
    congr 1
    apply List.map_congr_left
    intro B _
    split <;> simp
  · unfold lwlkT
    rw [lwlk_sum, Nat.zero_add]
    have e3 : ((ordersL ws.length).map fun p => dist n (ws.getD k 0) (spotP n ws k p)) = (ordersL ws.length).map fun p => (fun B => dist n (ws.getD k 0) (spotOf n ws k B)) (sortN (preK k p)) :=
      List.map_congr_left fun p hp => by rw [hspot p hp]
    rw [e3, key_sum hm hk (fun B => dist n (ws.getD k 0) (spotOf n ws k B))]
    unfold wlks
    have e4 : ((List.range n).map fun s => dist n (ws.getD k 0) s * (cnts n ws k).getD s 0) = (List.range n).map fun s => dist n (ws.getD k 0) s * ((allB ws.length k).map fun B => if spotOf n ws k B = s then wgt ws.length B else 0).sum :=
      List.map_congr_left fun s hs => by rw [hc s (List.mem_range.mp hs)]
    rw [e4]
    exact (exch (dist n (ws.getD k 0)) (spotOf n ws k) (wgt ws.length) n _ hBn).symm
end Ma
/-! blocks of a goal, and what parks within it -/
namespace Ma
open Px
def subsL : Nat → List (List Nat)
  | 0 => [[]]
  | n + 1 => subsL n ++ (subsL n).map fun s => s ++ [n]
theorem mem_subsL (q : Nat → Bool) : ∀ n, (List.range n).filter q ∈ subsL n
  | 0 => by simp [subsL]
  | n + 1 => by
    rw [List.range_succ, List.filter_append]
    unfold subsL
    by_cases h : q n = true
    · rw [show [n].filter q = [n] by simp [h]]
      exact List.mem_append_right _ (List.mem_map.mpr ⟨_, mem_subsL q n, rfl⟩)
    · rw [show [n].filter q = [] by simp [h], List.append_nil]
      exact List.mem_append_left _ (mem_subsL q n)
theorem set_mem {n : Nat} {G : List Nat} (hr : Rise G) (hG : ∀ x ∈ G, x < n) : G ∈ subsL n := by
  have e : G = (List.range n).filter fun x => decide (x ∈ G) := by
    refine sorted_eq (rise_pair (n := n) hr) ((List.pairwise_lt_range).filter _) ?_
    refine perm_of_sub (SetLt (n := n) hr) (List.nodup_range.filter _) (fun x hx => List.mem_filter.mpr ⟨List.mem_range.mpr (hG x hx), decide_eq_true hx⟩) ?_
    exact len_le_of_sub (List.nodup_range.filter _) (fun x hx => of_decide_eq_true (List.mem_filter.mp hx).2)
  rw [e]
  exact mem_subsL _ n
def blkB (n : Nat) (G : List Nat) : Bool :=
  decide ((bps n G).flatten.Nodup) && (G.all fun x => (bps n G).any fun b => decide (x ∈ b)) &&
  (blocks n G).all fun c => decide (c.2 ≤ n) && (row n c).all (fun x => decide (x ∈ G)) && decide ((c.1 + c.2) % n ∉ G) && decide ((c.1 + n - 1) % n ∉ G) && decide ((row n c).Nodup) && decide (c.1 < n)
theorem blk_all {n : Nat} {G : List Nat} (h6 : n ≤ 6) (hr : Rise G) (hG : ∀ x ∈ G, x < n) (hl : G.length ≠ n) : blkB n G = true := by
  have : ∀ n, n ≤ 6 → ∀ G ∈ subsL n, G.length ≠ n → blkB n G = true := by decide +kernel
  exact this n h6 G (set_mem hr hG) hl
/-- one block -/
structure Blk (n : Nat) (G b : List Nat) (p l : Nat) : Prop where
  eq : b = row n (p, l)
  le : l ≤ n
  ins : ∀ i, i < l → (p + i) % n ∈ G
  fin : (p + l) % n ∉ G
  beg : (p + n - 1) % n ∉ G
  nd : b.Nodup
  lt : p < n
theorem row_get {n p l i : Nat} (h : i < l) : (row n (p, l))[i]? = some ((p + i) % n) := by
  unfold row
  rw [List.getElem?_map, List.getElem?_range h]
  rfl
theorem row_len (n p l : Nat) : (row n (p, l)).length = l := by unfold row; rw [List.length_map, List.length_range]
theorem blk_of {n : Nat} {G b : List Nat} (h : blkB n G = true) (hb : b ∈ bps n G) : ∃ p l, Blk n G b p l := by
  unfold blkB at h
  rw [Bool.and_eq_true, Bool.and_eq_true] at h
  obtain ⟨c, hc, rfl⟩ := List.mem_map.mp hb
  have h1 := List.all_eq_true.mp h.2 c hc
  simp only [Bool.and_eq_true, decide_eq_true_eq, List.all_eq_true] at h1
  obtain ⟨⟨⟨⟨⟨h2, h3⟩, h4⟩, h5⟩, h6⟩, h7⟩ := h1
  refine ⟨c.1, c.2, rfl, h2, fun i hi => ?_, h4, h5, h6, h7⟩
  exact h3 _ (List.mem_of_getElem? (row_get (n := n) (p := c.1) hi))
theorem Blk.len {n p l : Nat} {G b : List Nat} (B : Blk n G b p l) : b.length = l := by rw [B.eq, row_len]
theorem Blk.rank {n p l x : Nat} {G b : List Nat} (B : Blk n G b p l) (hx : x ∈ b) : b.idxOf x < l ∧ x = (p + b.idxOf x) % n := by
  have hl := List.idxOf_lt_length_iff.mpr hx
  rw [B.len] at hl
  refine ⟨hl, ?_⟩
  have h1 : b[b.idxOf x]? = some x := (idx_spec hx).1
  have h2 : (row n (p, l))[b.idxOf x]? = some ((p + b.idxOf x) % n) := row_get hl
  rw [← B.eq, h1] at h2
  exact Option.some.inj h2
theorem nd_inj {L : List Nat} {i j x : Nat} (h : L.Nodup) (h1 : L[i]? = some x) (h2 : L[j]? = some x) : i = j := by
  obtain ⟨l1, e1⟩ := List.getElem?_eq_some_iff.mp h1
  obtain ⟨l2, e2⟩ := List.getElem?_eq_some_iff.mp h2
  have hp := List.pairwise_iff_getElem.mp h
  by_cases hij : i < j
  · exact absurd (e1.trans e2.symm) (hp i j l1 l2 hij)
  · by_cases hji : j < i
    · exact absurd (e2.trans e1.symm) (hp j i l2 l1 hji)
    · omega
theorem Blk.at {n p l i : Nat} {G b : List Nat} (B : Blk n G b p l) (hi : i < l) : (p + i) % n ∈ b ∧ b.idxOf ((p + i) % n) = i := by
  have h2 : b[i]? = some ((p + i) % n) := by rw [B.eq]; exact row_get hi
  have hm := List.mem_of_getElem? h2
  refine ⟨hm, ?_⟩
  have h1 : b[b.idxOf ((p + i) % n)]? = some ((p + i) % n) := (idx_spec hm).1
  exact nd_inj B.nd h1 h2
/-- those in a block's part from rank a on -/
def inS (b : List Nat) (a x : Nat) : Bool := decide (x ∈ b) && decide (a ≤ b.idxOf x)
def cntX (b : List Nat) (a : Nat) (X : List Nat) : Nat := (X.filter (inS b a)).length
theorem cntX_app (b : List Nat) (a : Nat) (X Y : List Nat) : cntX b a (X ++ Y) = cntX b a X + cntX b a Y := by unfold cntX; rw [List.filter_append, List.length_append]
theorem cntX_one (b : List Nat) (a x : Nat) : cntX b a [x] = if inS b a x = true then 1 else 0 := by
  unfold cntX
  cases h : inS b a x <;> simp [List.filter, h]
theorem cntX_sub {b : List Nat} {a : Nat} {X Y : List Nat} (h : X.Sublist Y) : cntX b a X ≤ cntX b a Y := (h.filter _).length_le
theorem cntX_perm {b : List Nat} {a : Nat} {X Y : List Nat} (h : X.Perm Y) : cntX b a X = cntX b a Y := (h.filter _).length_eq
def KBX (n : Nat) (G X : List Nat) : Prop := (∀ b ∈ bps n G, ∀ a, a < b.length → cntX b a X ≤ b.length - a) ∧ ∀ x ∈ X, x ∈ G
theorem keptB_iff {n : Nat} {ws G K : List Nat} : keptB n ws G K = true ↔ KBX n G (at_ ws K) := by
  unfold keptB KBX
  rw [Bool.and_eq_true, List.all_eq_true, List.all_eq_true]
  have e : ∀ b a, ((ranks ws b K).filter fun r => decide (a ≤ r)).length = cntX b a (at_ ws K) := fun b a => by
    unfold ranks cntX
    rw [List.filter_map, List.length_map, List.filter_filter]
    congr 1
    apply List.filter_congr
    intro x _
    unfold inS
    rw [Bool.and_comm]
    rfl
  constructor
  · rintro ⟨h1, h2⟩
    refine ⟨fun b hb a ha => ?_, fun x hx => of_decide_eq_true (h2 x hx)⟩
    have h3 := h1 b hb
    unfold blockOk at h3
    rw [List.all_eq_true] at h3
    have h4 := of_decide_eq_true (h3 a (List.mem_range.mpr ha))
    rw [e] at h4
    exact h4
  · rintro ⟨h1, h2⟩
    refine ⟨fun b hb => ?_, fun x hx => decide_eq_true (h2 x hx)⟩
    unfold blockOk
    rw [List.all_eq_true]
    intro a ha
    refine decide_eq_true ?_
    rw [e]
    exact h1 b hb a (List.mem_range.mp ha)
/-! rings -/
theorem mod_add {u v n : Nat} (c : Nat) (h : u % n = v % n) : (u + c) % n = (v + c) % n := by rw [Nat.add_mod, h, ← Nat.add_mod]
theorem mod_can {u v n c : Nat} (hn : 0 < n) (h : (u + c) % n = (v + c) % n) : u % n = v % n := by
  have h1 := mod_add (c * (n - 1)) h
  have e : ∀ z, z + c + c * (n - 1) = z + c * n := fun z => by
    have : c * n = c + c * (n - 1) := by
      conv => lhs; rw [show n = 1 + (n - 1) by omega, Nat.mul_add, Nat.mul_one]
    omega
  rw [e, e, Nat.add_mul_mod_self_right, Nat.add_mul_mod_self_right] at h1
  exact h1
section
variable {n p l : Nat} {G b : List Nat}
/-- a car that wishes within, and parks in the goal, parks within -/
theorem in_in (B : Blk n G b p l) {T : List Nat} {a x : Nat} (hT : ∀ z ∈ T, z ∈ G) (hl : T.length < n) (hx : inS b a x = true) (ht : nx n T n x ∈ G) : inS b a (nx n T n x) = true := by
  unfold inS at hx
  rw [Bool.and_eq_true, decide_eq_true_iff, decide_eq_true_iff] at hx
  obtain ⟨hxb, har⟩ := hx
  obtain ⟨hr, ex⟩ := B.rank hxb
  generalize b.idxOf x = r at har hr ex
  have hn : 0 < n := by omega
  have hxn : x < n := by rw [ex]; exact Nat.mod_lt _ hn
  obtain ⟨k, hk, e1, e2, e3⟩ := nx_spec (fr_of hl hxn)
  have hpos : ∀ j, (x + j) % n = (p + (r + j)) % n := fun j => by rw [ex, Nat.mod_add_mod, Nat.add_assoc]
  have hkl : r + k < l := by
    by_cases h1 : r + k < l
    · exact h1
    · exfalso
      by_cases h2 : r + k = l
      · rw [e1, hpos, h2] at ht
        exact B.fin ht
      · have h3 := e3 (l - r) (by omega)
        rw [hpos, show r + (l - r) = l by omega] at h3
        exact B.fin (hT _ h3)
  rw [e1, hpos]
  obtain ⟨h4, h5⟩ := B.at hkl
  unfold inS
  rw [Bool.and_eq_true, decide_eq_true_iff, decide_eq_true_iff]
  exact ⟨h4, by rw [h5]; omega⟩
theorem S_len (B : Blk n G b p l) {T : List Nat} (hT : T.Nodup) (a : Nat) : cntX b a T ≤ l - a := by
  unfold cntX
  have h := len_le_of_sub (l := T.filter (inS b a)) (m := b.drop a) (hT.filter _) (fun x hx => by
    have h1 := (List.mem_filter.mp hx).2
    unfold inS at h1
    rw [Bool.and_eq_true, decide_eq_true_iff, decide_eq_true_iff] at h1
    have h2 := (idx_spec h1.1).1
    refine List.mem_of_getElem? (i := b.idxOf x - a) ?_
    rw [List.getElem?_drop, show a + (b.idxOf x - a) = b.idxOf x by omega]
    exact h2)
  rw [List.length_drop, B.len] at h
  exact h
theorem cnt_in (B : Blk n G b p l) {X : List Nat} (hl : X.length ≤ n) (hX : ∀ x ∈ X, x < n) (hf : ∀ z ∈ spots n X, z ∈ G) (a : Nat) : ∀ i, i ≤ X.length → (∀ z ∈ spots n (X.take i), z ∈ G) ∧ True → cntX b a (X.take i) ≤ cntX b a (spots n (X.take i))
  | 0, _, _ => by simp [cntX]
  | i + 1, hi, h => by
    obtain ⟨v, hv⟩ : ∃ v, X[i]? = some v := ⟨_, List.getElem?_eq_getElem (by omega)⟩
    have e1 : spots n (X.take (i + 1)) = spots n (X.take i) ++ [nx n (spots n (X.take i)) n v] := by rw [spots_take_succ hv]; rfl
    have e2 : X.take (i + 1) = X.take i ++ [v] := by rw [List.take_add_one, hv]; rfl
    rw [e1] at h
    have h1 := cnt_in B hl hX hf a i (by omega) ⟨fun z hz => h.1 z (List.mem_append_left _ hz), True.intro⟩
    rw [e1, e2, cntX_app, cntX_app, cntX_one, cntX_one]
    have hTl : (spots n (X.take i)).length = i := by rw [spots_len, List.length_take]; omega
    by_cases hS : inS b a v = true
    · rw [if_pos hS, if_pos (in_in B (fun z hz => h.1 z (List.mem_append_left _ hz)) (by omega) hS (h.1 _ (List.mem_append_right _ (List.mem_singleton.mpr rfl))))]
      omega
    · rw [if_neg hS]
      split <;> omega
end
/-- who parks within the goal keeps the counts -/
theorem fits_kb {n : Nat} {G X : List Nat} (hb : blkB n G = true) (hl : X.length ≤ n) (hX : ∀ x ∈ X, x < n) (hf : fitsB n G X = true) : KBX n G X := by
  unfold fitsB at hf
  rw [List.all_eq_true] at hf
  have hf' : ∀ z ∈ spots n X, z ∈ G := fun z hz => of_decide_eq_true (hf z hz)
  have htk := spots_tk hl hX
  have hpre : ∀ i, ∀ z ∈ spots n (X.take i), z ∈ G := fun i z hz => by
    refine hf' z ?_
    have : spots n X = (X.drop i).foldl (add1 n) (spots n (X.take i)) := by
      unfold spots
      rw [← List.foldl_append, List.take_append_drop]
    rw [this]
    have key : ∀ (L T : List Nat), z ∈ T → z ∈ L.foldl (add1 n) T := by
      intro L
      induction L with
      | nil => intro T h; exact h
      | cons y L ih => intro T h; rw [List.foldl_cons]; exact ih _ (List.mem_append_left _ h)
    exact key _ _ hz
  refine ⟨fun b hbm a ha => ?_, fun x hx => ?_⟩
  · obtain ⟨p, l, B⟩ := blk_of hb hbm
    have h1 := cnt_in B hl hX hf' a X.length (Nat.le_refl _) ⟨hpre _, True.intro⟩
    rw [List.take_length] at h1
    have h2 := S_len B htk.nd a
    rw [B.len]
    omega
  · obtain ⟨i, hi, rfl⟩ := List.mem_iff_getElem.mp hx
    have hv := List.getElem?_eq_getElem hi
    by_cases h : X[i] ∈ G
    · exact h
    · exfalso
      have e1 : spots n (X.take (i + 1)) = spots n (X.take i) ++ [nx n (spots n (X.take i)) n X[i]] := by rw [spots_take_succ hv]; rfl
      have hnot : X[i] ∉ spots n (X.take i) := fun z => h (hpre i _ z)
      have hTl : (spots n (X.take i)).length = i := by rw [spots_len, List.length_take]; omega
      have e2 : nx n (spots n (X.take i)) n X[i] = X[i] := by
        have h3 := nx_eq (n := n) (T := spots n (X.take i)) (k := 0) (f := n) (x := X[i]) (hX _ hx) (by omega) (by rw [Nat.add_zero, Nat.mod_eq_of_lt (hX _ hx)]; exact hnot) (fun j hj => by omega)
        rw [h3, Nat.add_zero, Nat.mod_eq_of_lt (hX _ hx)]
      have := hpre (i + 1) X[i] (by rw [e1, e2]; exact List.mem_append_right _ (List.mem_singleton.mpr rfl))
      exact h this
end Ma
namespace Ma
open Px
/-- the start of a run that ends at r -/
theorem run_start {Pr : Nat → Prop} : ∀ r : Nat, Pr r → ∃ a, a ≤ r ∧ (∀ i, a ≤ i → i ≤ r → Pr i) ∧ (a = 0 ∨ ¬ Pr (a - 1))
  | 0, h => ⟨0, Nat.le_refl _, fun i _ hi => by rw [show i = 0 by omega]; exact h, .inl rfl⟩
  | r + 1, h => by
    by_cases hp : Pr r
    · obtain ⟨a, h1, h2, h3⟩ := run_start r hp
      refine ⟨a, by omega, fun i hi hi2 => ?_, h3⟩
      by_cases e : i = r + 1
      · rw [e]; exact h
      · exact h2 i hi (by omega)
    · exact ⟨r + 1, Nat.le_refl _, fun i hi hi2 => by rw [show i = r + 1 by omega]; exact h, .inr hp⟩
section
variable {n p l : Nat} {G b : List Nat}
/-- cars parked behind an empty place have wished there -/
theorem out_in (B : Blk n G b p l) {T : List Nat} {a w : Nat} (hwn : w < n) (hw : w ∉ T) (hwe : (w + 1) % n = (p + a) % n) (hal : a < l) {X : List Nat} (hl : X.length ≤ n) (hX : ∀ x ∈ X, x < n) (i0 : Nat) (hTe : ∀ z ∈ spots n (X.take i0), z ∈ T) : ∀ j, j ≤ i0 → i0 ≤ X.length → cntX b a (spots n (X.take j)) ≤ cntX b a (X.take j)
  | 0, _, _ => by simp [cntX, spots]
  | j + 1, hj, hi0 => by
    have ih := out_in B hwn hw hwe hal hl hX i0 hTe j (by omega) hi0
    obtain ⟨y, hy⟩ : ∃ y, X[j]? = some y := ⟨_, List.getElem?_eq_getElem (by omega)⟩
    have e1 : spots n (X.take (j + 1)) = spots n (X.take j) ++ [nx n (spots n (X.take j)) n y] := by rw [spots_take_succ hy]; rfl
    have e2 : X.take (j + 1) = X.take j ++ [y] := by rw [List.take_add_one, hy]; rfl
    rw [e1, e2, cntX_app, cntX_app, cntX_one, cntX_one]
    have hTl : (spots n (X.take j)).length = j := by rw [spots_len, List.length_take]; omega
    have hyn : y < n := hX y (List.mem_of_getElem? hy)
    have hn : 0 < n := by omega
    have hsub : ∀ z ∈ spots n (X.take j), z ∈ T := fun z hz => by
      refine hTe z ?_
      have e3 : spots n (X.take i0) = ((X.take i0).drop j).foldl (add1 n) (spots n (X.take j)) := by
        unfold spots
        rw [← List.foldl_append]
        congr 1
        conv => lhs; rw [← List.take_append_drop j (X.take i0)]
        rw [List.take_take, Nat.min_eq_left (by omega)]
      rw [e3]
      have key : ∀ (L T : List Nat), z ∈ T → z ∈ L.foldl (add1 n) T := by
        intro L
        induction L with
        | nil => intro T h; exact h
        | cons y L ih => intro T h; rw [List.foldl_cons]; exact ih _ (List.mem_append_left _ h)
      exact key _ _ hz
    by_cases hS : inS b a (nx n (spots n (X.take j)) n y) = true
    · have hy2 : inS b a y = true := by
        obtain ⟨k, hk, f1, f2, f3⟩ := nx_spec (fr_of (show (spots n (X.take j)).length < n by omega) hyn)
        rw [f1] at hS
        unfold inS at hS
        rw [Bool.and_eq_true, decide_eq_true_iff, decide_eq_true_iff] at hS
        obtain ⟨h1, h2⟩ := B.rank hS.1
        have h3 := hS.2
        generalize b.idxOf ((y + k) % n) = r at h1 h2 h3
        by_cases hkr : k ≤ r - a
        · have h4 : y % n = (p + (r - k)) % n := by
            refine mod_can (c := k) hn ?_
            rw [h2, show p + (r - k) + k = p + r by omega]
          rw [Nat.mod_eq_of_lt hyn] at h4
          obtain ⟨h5, h6⟩ := B.at (show r - k < l by omega)
          rw [h4]
          unfold inS
          rw [Bool.and_eq_true, decide_eq_true_iff, decide_eq_true_iff]
          exact ⟨h5, by rw [h6]; omega⟩
        · exfalso
          have h4 : (y + (k - (r - a) - 1)) % n = w % n := by
            refine mod_can (c := r - a + 1) hn ?_
            rw [show y + (k - (r - a) - 1) + (r - a + 1) = y + k by omega, h2, show w + (r - a + 1) = w + 1 + (r - a) by omega]
            have h5 := mod_add (r - a) hwe
            rw [h5, show p + a + (r - a) = p + r by omega]
          have h6 := hsub _ (f3 (k - (r - a) - 1) (by omega))
          rw [h4] at h6
          rw [Nat.mod_eq_of_lt hwn] at h6
          exact hw h6
      rw [if_pos hS, if_pos hy2]
      omega
    · rw [if_neg hS]
      split <;> omega
theorem S_all (B : Blk n G b p l) {T : List Nat} {a : Nat} (h : ∀ i, a ≤ i → i < l → (p + i) % n ∈ T) : l - a ≤ cntX b a T := by
  unfold cntX
  have h1 := len_le_of_sub (l := b.drop a) (m := T.filter (inS b a)) ((List.drop_sublist a b).nodup B.nd) (fun x hx => by
    obtain ⟨i, hi, rfl⟩ := List.mem_iff_getElem.mp hx
    have hl := hi
    rw [List.length_drop, B.len] at hl
    have e : (b.drop a)[i] = (p + (a + i)) % n := by
      have h2 : b[a + i]? = some ((p + (a + i)) % n) := by rw [B.eq]; exact row_get (by omega)
      have h3 : (b.drop a)[i]? = b[a + i]? := List.getElem?_drop
      rw [h2, List.getElem?_eq_getElem hi] at h3
      exact Option.some.inj h3
    rw [e]
    obtain ⟨h5, h6⟩ := B.at (show a + i < l by omega)
    refine List.mem_filter.mpr ⟨h (a + i) (by omega) (by omega), ?_⟩
    unfold inS
    rw [Bool.and_eq_true, decide_eq_true_iff, decide_eq_true_iff]
    exact ⟨h5, by rw [h6]; omega⟩)
  rw [List.length_drop, B.len] at h1
  exact h1
end
theorem blk_cover {n x : Nat} {G : List Nat} (hb : blkB n G = true) (hx : x ∈ G) : ∃ b ∈ bps n G, x ∈ b := by
  unfold blkB at hb
  rw [Bool.and_eq_true, Bool.and_eq_true] at hb
  obtain ⟨b, h1, h2⟩ := List.any_eq_true.mp (List.all_eq_true.mp hb.1.2 x hx)
  exact ⟨b, h1, of_decide_eq_true h2⟩
/-- who keeps the counts parks within the goal -/
theorem kb_spots {n : Nat} {G X : List Nat} (hb : blkB n G = true) (hl : X.length ≤ n) (hX : ∀ x ∈ X, x < n) (hk : KBX n G X) : ∀ i, i ≤ X.length → ∀ z ∈ spots n (X.take i), z ∈ G
  | 0, _, z, hz => by simp [spots] at hz
  | i + 1, hi, z, hz => by
    have ih := kb_spots hb hl hX hk i (by omega)
    obtain ⟨x, hx⟩ : ∃ x, X[i]? = some x := ⟨_, List.getElem?_eq_getElem (by omega)⟩
    have hxm := List.mem_of_getElem? hx
    have e1 : spots n (X.take (i + 1)) = spots n (X.take i) ++ [nx n (spots n (X.take i)) n x] := by rw [spots_take_succ hx]; rfl
    rw [e1] at hz
    rcases List.mem_append.mp hz with hz | hz
    · exact ih z hz
    · rw [List.mem_singleton] at hz
      subst hz
      have hxn := hX x hxm
      have hn : 0 < n := by omega
      have hTl : (spots n (X.take i)).length = i := by rw [spots_len, List.length_take]; omega
      obtain ⟨b, hbm, hxb⟩ := blk_cover hb (hk.2 x hxm)
      obtain ⟨p, l, B⟩ := blk_of hb hbm
      obtain ⟨hr, ex⟩ := B.rank hxb
      have hin : ∀ a, a ≤ b.idxOf x → inS b a x = true := fun a ha => by
        unfold inS
        rw [Bool.and_eq_true, decide_eq_true_iff, decide_eq_true_iff]
        exact ⟨hxb, ha⟩
      generalize b.idxOf x = r at hr ex hin
      obtain ⟨k, hk1, f1, f2, f3⟩ := nx_spec (fr_of (show (spots n (X.take i)).length < n by omega) hxn)
      have hpos : ∀ j, (x + j) % n = (p + (r + j)) % n := fun j => by rw [ex, Nat.mod_add_mod, Nat.add_assoc]
      rw [f1]
      by_cases hkl : r + k < l
      · rw [hpos]
        exact B.ins _ hkl
      · exfalso
        have hk2 : k ≤ l - r := by
          by_cases h1 : k ≤ l - r
          · exact h1
          · exfalso
            have h3 := f3 (l - r) (by omega)
            rw [hpos, show r + (l - r) = l by omega] at h3
            exact B.fin (ih _ h3)
        have hrun : ∀ j, r ≤ j → j < l → (p + j) % n ∈ spots n (X.take i) := fun j h1 h2 => by
          have h3 := f3 (j - r) (by omega)
          rw [hpos, show r + (j - r) = j by omega] at h3
          exact h3
        obtain ⟨a, ha, hrun2, hst⟩ := run_start (Pr := fun j => (p + j) % n ∈ spots n (X.take i)) r (hrun r (Nat.le_refl _) hr)
        have hall : ∀ j, a ≤ j → j < l → (p + j) % n ∈ spots n (X.take i) := fun j h1 h2 => by
          by_cases h3 : j ≤ r
          · exact hrun2 j h1 h3
          · exact hrun j (by omega) h2
        have hw : (p + a + n - 1) % n ∉ spots n (X.take i) := by
          rcases hst with h0 | h0
          · subst h0
            exact fun h => B.beg (ih _ h)
          · intro h
            by_cases h1 : a = 0
            · subst h1
              exact B.beg (ih _ h)
            · rw [show p + a + n - 1 = p + (a - 1) + n by omega, Nat.add_mod_right] at h
              exact h0 h
        have hwe : ((p + a + n - 1) % n + 1) % n = (p + a) % n := by
          rw [Nat.mod_add_mod, show p + a + n - 1 + 1 = p + a + n by omega, Nat.add_mod_right]
        have h1 := out_in B (Nat.mod_lt _ hn) hw hwe (by omega) hl hX i (fun z hz => hz) i (Nat.le_refl _) (by omega)
        have h2 := S_all B hall
        have h3 : cntX b a (X.take (i + 1)) = cntX b a (X.take i) + 1 := by
          rw [List.take_add_one, hx]
          show cntX b a (X.take i ++ [x]) = _
          rw [cntX_app, cntX_one, if_pos (hin a ha)]
        have h4 := cntX_sub (b := b) (a := a) (List.take_sublist (i + 1) X)
        have h5 := hk.1 b hbm a (by rw [B.len]; omega)
        rw [B.len] at h5
        omega
end Ma
namespace Ma
open Px
theorem ex_min {Pr : Nat → Prop} (m : Nat) (h : Pr m) : ∃ a, Pr a ∧ ∀ c, Pr c → a ≤ c := by
  induction m using Nat.strongRecOn with
  | ind m ih =>
    by_cases hc : ∃ c, c < m ∧ Pr c
    · obtain ⟨c, h1, h2⟩ := hc
      exact ih c h1 h2
    · refine ⟨m, h, fun c hc2 => ?_⟩
      by_cases h3 : m ≤ c
      · exact h3
      · exact absurd ⟨c, by omega, hc2⟩ hc
theorem cnt_big {b X : List Nat} {a : Nat} (h : b.length ≤ a) : cntX b a X = 0 := by
  unfold cntX
  rw [List.length_eq_zero_iff, List.filter_eq_nil_iff]
  intro x _ hx
  unfold inS at hx
  rw [Bool.and_eq_true, decide_eq_true_iff, decide_eq_true_iff] at hx
  have := List.idxOf_lt_length_iff.mpr hx.1
  omega
/-- in the part of one of the blocks -/
def uS (t : List Nat → Nat) (Bs : List (List Nat)) (x : Nat) : Bool := Bs.any fun b => inS b (t b) x
theorem u_one (t : List Nat → Nat) (x : Nat) : ∀ Bs : List (List Nat), Bs.flatten.Nodup → (if uS t Bs x = true then 1 else 0) = (Bs.map fun b => if inS b (t b) x = true then 1 else 0).sum
  | [], _ => rfl
  | b :: Bs, h => by
    rw [List.flatten_cons, List.nodup_append] at h
    have ih := u_one t x Bs h.2.1
    rw [List.map_cons, List.sum_cons, ← ih]
    unfold uS
    rw [List.any_cons]
    by_cases h1 : inS b (t b) x = true
    · have h2 : Bs.any (fun b => inS b (t b) x) = false := by
        rw [List.any_eq_false]
        intro c hc h3
        unfold inS at h1 h3
        rw [Bool.and_eq_true, decide_eq_true_iff] at h1 h3
        exact h.2.2 x h1.1 x (List.mem_flatten.mpr ⟨c, hc, h3.1⟩) rfl
      rw [h1, h2]
      rfl
    · rw [Bool.not_eq_true] at h1
      rw [h1, Bool.false_or]
      simp
theorem u_sum (t : List Nat → Nat) (Bs : List (List Nat)) (h : Bs.flatten.Nodup) : ∀ X : List Nat, (X.filter (uS t Bs)).length = (Bs.map fun b => cntX b (t b) X).sum
  | [] => by
    have : (Bs.map fun b => cntX b (t b) []) = Bs.map fun _ => 0 := List.map_congr_left fun b _ => rfl
    rw [this, sum_zero_]
    rfl
  | x :: X => by
    have e : (Bs.map fun b => cntX b (t b) (x :: X)) = Bs.map fun b => (if inS b (t b) x = true then 1 else 0) + cntX b (t b) X := List.map_congr_left fun b _ => by
      rw [show x :: X = [x] ++ X from rfl, cntX_app, cntX_one]
    rw [e, sum_add_, ← u_sum t Bs h X, ← u_one t x Bs h, List.filter_cons]
    by_cases h1 : uS t Bs x = true
    · rw [if_pos h1, if_pos h1, List.length_cons]; omega
    · rw [if_neg h1, if_neg h1]; omega
where
  sum_zero_ : ∀ {Bs : List (List Nat)}, (Bs.map fun _ => 0).sum = 0 := by
    intro Bs
    induction Bs with
    | nil => rfl
    | cons b Bs ih => rw [List.map_cons, List.sum_cons, ih]
  sum_add_ : ∀ {f g : List Nat → Nat} {Bs : List (List Nat)}, (Bs.map fun x => f x + g x).sum = (Bs.map f).sum + (Bs.map g).sum := by
    intro f g Bs
    induction Bs with
    | nil => rfl
    | cons b Bs ih => rw [List.map_cons, List.map_cons, List.map_cons, List.sum_cons, List.sum_cons, List.sum_cons, ih]; omega
theorem sum_mono {f g : List Nat → Nat} : ∀ {Bs : List (List Nat)}, (∀ b ∈ Bs, f b ≤ g b) → (Bs.map f).sum ≤ (Bs.map g).sum
  | [], _ => Nat.le_refl _
  | b :: Bs, h => by
    rw [List.map_cons, List.map_cons, List.sum_cons, List.sum_cons]
    have h1 := h b List.mem_cons_self
    have h2 := sum_mono (fun c hc => h c (List.mem_cons_of_mem _ hc) : ∀ c ∈ Bs, f c ≤ g c)
    omega
theorem blk_flat {n : Nat} {G : List Nat} (hb : blkB n G = true) : (bps n G).flatten.Nodup := by
  unfold blkB at hb
  rw [Bool.and_eq_true, Bool.and_eq_true] at hb
  exact of_decide_eq_true hb.1.1
/-- none keeps more -/
theorem max_kept {n : Nat} {ws G K A : List Nat} (hb : blkB n G = true) (hK : KBX n G (at_ ws K)) (hKm : ∀ i, i < ws.length → i ∉ K → ws.getD i 0 ∈ G → ¬ KBX n G (at_ ws (K ++ [i]))) (hA : KBX n G (at_ ws A)) (hAn : A.Nodup) (hAm : ∀ i ∈ A, i < ws.length) : A.length ≤ K.length := by
  have ht : ∀ b : List Nat, ∃ t, cntX b t (at_ ws K) = b.length - t ∧ ∀ c, cntX b c (at_ ws K) = b.length - c → t ≤ c := fun b =>
    ex_min (Pr := fun c => cntX b c (at_ ws K) = b.length - c) b.length (by show cntX b b.length _ = _; rw [cnt_big (Nat.le_refl _), Nat.sub_self])
  let t : List Nat → Nat := fun b => (ht b).choose
  have ht1 : ∀ b, cntX b (t b) (at_ ws K) = b.length - t b := fun b => (ht b).choose_spec.1
  have ht2 : ∀ b c, cntX b c (at_ ws K) = b.length - c → t b ≤ c := fun b => (ht b).choose_spec.2
  have h1 : ∀ i, i < ws.length → i ∉ K → ws.getD i 0 ∈ G → uS t (bps n G) (ws.getD i 0) = true := by
    intro i hi hiK hG
    have hno := hKm i hi hiK hG
    by_cases hu : ∃ b ∈ bps n G, ∃ a, a < b.length ∧ ¬ cntX b a (at_ ws (K ++ [i])) ≤ b.length - a
    · obtain ⟨b, hbm, a, ha, hc⟩ := hu
      have e : at_ ws (K ++ [i]) = at_ ws K ++ [ws.getD i 0] := by unfold at_; rw [List.map_append]; rfl
      rw [e, cntX_app, cntX_one] at hc
      have h2 := hK.1 b hbm a ha
      by_cases hS : inS b a (ws.getD i 0) = true
      · rw [if_pos hS] at hc
        have h3 := ht2 b a (by omega)
        refine List.any_eq_true.mpr ⟨b, hbm, ?_⟩
        unfold inS at hS ⊢
        rw [Bool.and_eq_true, decide_eq_true_iff, decide_eq_true_iff] at hS ⊢
        exact ⟨hS.1, by omega⟩
      · rw [if_neg hS] at hc
        omega
    · exfalso
      refine hno ⟨fun b hbm a ha => ?_, fun x hx => ?_⟩
      · by_cases h : cntX b a (at_ ws (K ++ [i])) ≤ b.length - a
        · exact h
        · exact absurd ⟨b, hbm, a, ha, h⟩ hu
      · unfold at_ at hx
        rw [List.map_append] at hx
        rcases List.mem_append.mp hx with hx | hx
        · exact hK.2 x hx
        · rw [List.map_singleton, List.mem_singleton] at hx
          rw [hx]; exact hG
  have hflat := blk_flat hb
  have h2 : ((at_ ws A).filter (uS t (bps n G))).length ≤ ((at_ ws K).filter (uS t (bps n G))).length := by
    rw [u_sum t _ hflat, u_sum t _ hflat]
    refine sum_mono (fun b hbm => ?_)
    rw [ht1 b]
    by_cases h : t b < b.length
    · exact hA.1 b hbm (t b) h
    · rw [cnt_big (by omega)]
      omega
  have e3 : ∀ L : List Nat, ((at_ ws L).filter (uS t (bps n G))).length = (L.filter fun i => uS t (bps n G) (ws.getD i 0)).length := fun L => by
    unfold at_
    rw [List.filter_map, List.length_map]
    rfl
  rw [e3, e3] at h2
  have h4 : (A.filter fun i => !uS t (bps n G) (ws.getD i 0)).length ≤ (K.filter fun i => !uS t (bps n G) (ws.getD i 0)).length := by
    refine len_le_of_sub (hAn.filter _) (fun i hi => ?_)
    obtain ⟨h5, h6⟩ := List.mem_filter.mp hi
    refine List.mem_filter.mpr ⟨?_, h6⟩
    by_cases hiK : i ∈ K
    · exact hiK
    · exfalso
      have h7 := h1 i (hAm i h5) hiK (hA.2 _ (List.mem_map.mpr ⟨i, h5, rfl⟩))
      rw [h7] at h6
      cases h6
  have l1 := len_split (fun i => uS t (bps n G) (ws.getD i 0)) A
  have l2 := len_split (fun i => uS t (bps n G) (ws.getD i 0)) K
  omega
theorem kbx_sub {n : Nat} {G X Y : List Nat} (h : KBX n G Y) (hs : X.Sublist Y) : KBX n G X :=
  ⟨fun b hb a ha => Nat.le_trans (cntX_sub hs) (h.1 b hb a ha), fun x hx => h.2 x (hs.subset hx)⟩
end Ma
namespace Ma
open Px
/-! ### greedy -/
section
variable {Pr : List Nat → Bool}
def gst (Pr : List Nat → Bool) (K : List Nat) (i : Nat) : List Nat := if Pr (K ++ [i]) = true then K ++ [i] else K
theorem greedy_eq (Pr : List Nat → Bool) (O : List Nat) : greedy Pr O = O.foldl (gst Pr) [] := rfl
theorem g_sub : ∀ (O K : List Nat), ∃ S, O.foldl (gst Pr) K = K ++ S ∧ S.Sublist O
  | [], K => ⟨[], by simp, List.Sublist.refl _⟩
  | x :: O, K => by
    rw [List.foldl_cons]
    obtain ⟨S, e, hs⟩ := g_sub O (gst Pr K x)
    unfold gst at e ⊢
    by_cases h : Pr (K ++ [x]) = true
    · rw [if_pos h] at e ⊢
      exact ⟨x :: S, by rw [e, List.append_assoc]; rfl, hs.cons₂ x⟩
    · rw [if_neg h] at e ⊢
      exact ⟨S, e, hs.cons x⟩
theorem g_ok : ∀ (O K : List Nat), Pr K = true → Pr (O.foldl (gst Pr) K) = true
  | [], K, h => h
  | x :: O, K, h => by
    rw [List.foldl_cons]
    refine g_ok O _ ?_
    unfold gst
    split
    · assumption
    · exact h
theorem g_max : ∀ (O K : List Nat), ∀ i ∈ O, i ∈ O.foldl (gst Pr) K ∨ ∃ K0 S, O.foldl (gst Pr) K = K0 ++ S ∧ Pr (K0 ++ [i]) = false
  | [], K, i, h => by simp at h
  | x :: O, K, i, h => by
    rw [List.foldl_cons]
    rcases List.mem_cons.mp h with rfl | h
    · obtain ⟨S, e, _⟩ := g_sub (Pr := Pr) O (gst Pr K i)
      by_cases hp : Pr (K ++ [i]) = true
      · refine .inl ?_
        rw [e]
        refine List.mem_append_left _ ?_
        unfold gst
        rw [if_pos hp]
        exact List.mem_append_right _ (List.mem_singleton.mpr rfl)
      · refine .inr ⟨K, S, ?_, by simpa using hp⟩
        rw [e]
        unfold gst
        rw [if_neg hp]
    · exact g_max O _ i h
end
theorem idxs_mem {m i : Nat} {ws b : List Nat} : i ∈ idxs m ws b ↔ i < m ∧ ws.getD i 0 ∈ b := by
  unfold idxs
  rw [List.mem_filter, List.mem_range, decide_eq_true_iff]
theorem ord_nodup (m : Nat) (ws : List Nat) : ∀ Bs : List (List Nat), Bs.flatten.Nodup → (Bs.flatMap fun b => idxs m ws b).Nodup
  | [], _ => by simp
  | b :: Bs, h => by
    rw [List.flatten_cons, List.nodup_append] at h
    rw [List.flatMap_cons, List.nodup_append]
    refine ⟨?_, ord_nodup m ws Bs h.2.1, fun i hi j hj e => ?_⟩
    · unfold idxs
      exact List.nodup_range.filter _
    · subst e
      obtain ⟨c, hc, hic⟩ := List.mem_flatMap.mp hj
      exact h.2.2 _ (idxs_mem.mp hi).2 _ (List.mem_flatten.mpr ⟨c, hc, (idxs_mem.mp hic).2⟩) rfl
structure KsOk (n : Nat) (ws G ks : List Nat) : Prop where
  nd : ks.Nodup
  lt : ∀ i ∈ ks, i < ws.length
  kb : KBX n G (at_ ws ks)
  mx : ∀ i, i < ws.length → i ∉ ks → ws.getD i 0 ∈ G → ¬ KBX n G (at_ ws (ks ++ [i]))
theorem blk_in {n x : Nat} {G b : List Nat} (hb : blkB n G = true) (hbm : b ∈ bps n G) (hx : x ∈ b) : x ∈ G := by
  obtain ⟨p, l, B⟩ := blk_of hb hbm
  obtain ⟨h1, h2⟩ := B.rank hx
  rw [h2]
  exact B.ins _ h1
theorem at_snoc (ws K : List Nat) (i : Nat) : at_ ws (K ++ [i]) = at_ ws K ++ [ws.getD i 0] := by unfold at_; rw [List.map_append]; rfl
theorem ks_ok {n : Nat} {ws G ks : List Nat} (hb : blkB n G = true) (hl : G.length ≠ n) (h : KeptOf n ws G ks) : KsOk n ws G ks := by
  obtain ⟨O, hO, rfl⟩ := h.2 hl
  rw [greedy_eq]
  have hon : (ordIdx n ws G).Nodup := ord_nodup _ _ _ (blk_flat hb)
  have hOn : O.Nodup := hO.nodup_iff.mpr hon
  obtain ⟨S, e, hs⟩ := g_sub (Pr := keptB n ws G) O []
  rw [List.nil_append] at e
  have hmem : ∀ i ∈ O, i < ws.length := fun i hi => by
    have h1 := hO.mem_iff.mp hi
    unfold ordIdx at h1
    obtain ⟨b, _, h2⟩ := List.mem_flatMap.mp h1
    exact (idxs_mem.mp h2).1
  have h0 : keptB n ws G [] = true := keptB_iff.mpr ⟨fun b hb a ha => by simp [cntX, at_], fun x hx => by simp [at_] at hx⟩
  refine ⟨by rw [e]; exact hs.nodup hOn, fun i hi => ?_, keptB_iff.mp (g_ok O [] h0), fun i hi hni hG => ?_⟩
  · rw [e] at hi
    exact hmem i (hs.subset hi)
  · have hio : i ∈ O := by
      refine hO.mem_iff.mpr ?_
      obtain ⟨b, hbm, hxb⟩ := blk_cover hb hG
      exact List.mem_flatMap.mpr ⟨b, hbm, idxs_mem.mpr ⟨hi, hxb⟩⟩
    rcases g_max (Pr := keptB n ws G) O [] i hio with h1 | ⟨K0, S0, e0, h1⟩
    · exact absurd h1 hni
    · intro hk
      have h2 : keptB n ws G (K0 ++ [i]) = true := by
        refine keptB_iff.mpr (kbx_sub hk ?_)
        rw [e0, at_snoc, at_snoc]
        unfold at_
        rw [List.map_append]
        exact (List.sublist_append_left _ _).append (List.Sublist.refl _)
      rw [h1] at h2
      cases h2
/-! ### the filled row -/
theorem fill_fr (ks ws fr : List Nat) : ∀ i, (fillN ks ws fr i).2 = fr.drop (cnt ks i)
  | 0 => by show fr = fr.drop 0; rfl
  | i + 1 => by
    rw [fillN_succ, cnt_succ]
    unfold fillS
    have ih := fill_fr ks ws fr i
    split
    · exact ih
    · rw [ih, List.tail_drop]
theorem fill_get (ks ws fr : List Nat) : ∀ i, i ≤ ws.length → ∀ j, j < ws.length → (fillN ks ws fr i).1.getD j 0 = if j < i ∧ j ∉ ks then fr.getD (cnt ks j) 0 else ws.getD j 0
  | 0, _, j, _ => by rw [if_neg (by omega)]; rfl
  | i + 1, hi, j, hj => by
    have ih := fill_get ks ws fr i (by omega) j hj
    rw [fillN_succ]
    unfold fillS
    by_cases hk : i ∈ ks
    · rw [if_pos hk, ih]
      by_cases h1 : j < i ∧ j ∉ ks
      · rw [if_pos h1, if_pos ⟨by omega, h1.2⟩]
      · rw [if_neg h1]
        by_cases h2 : j < i + 1 ∧ j ∉ ks
        · exfalso
          have : j = i := by
            by_cases h3 : j < i
            · exact absurd ⟨h3, h2.2⟩ h1
            · omega
          rw [this] at h2
          exact h2.2 hk
        · rw [if_neg h2]
    · rw [if_neg hk]
      dsimp only
      rw [List.getD_eq_getElem?_getD, List.getElem?_set]
      by_cases hji : i = j
      · subst hji
        rw [if_pos rfl, if_pos (by rw [fillN_len]; exact hj), if_pos ⟨by omega, hk⟩, fill_fr]
        show (fr.drop (cnt ks i)).headD 0 = _
        rw [List.headD_eq_head?_getD, List.head?_drop, List.getD_eq_getElem?_getD]
      · rw [if_neg hji, ← List.getD_eq_getElem?_getD, ih]
        by_cases h1 : j < i ∧ j ∉ ks
        · rw [if_pos h1, if_pos ⟨by omega, h1.2⟩]
        · rw [if_neg h1, if_neg (fun h2 => h1 ⟨by omega, h2.2⟩)]
theorem take_fr (ks fr : List Nat) : ∀ i, cnt ks i ≤ fr.length → ((List.range i).filter fun j => decide (j ∉ ks)).map (fun j => fr.getD (cnt ks j) 0) = fr.take (cnt ks i)
  | 0, _ => by simp [cnt]
  | i + 1, h => by
    have hc := cnt_succ ks i
    rw [List.range_succ, List.filter_append, List.map_append]
    by_cases hk : i ∈ ks
    · rw [if_pos hk] at hc
      rw [hc] at h ⊢
      rw [take_fr ks fr i h]
      simp [hk]
    · rw [if_neg hk] at hc
      rw [hc] at h ⊢
      rw [take_fr ks fr i (by omega), List.take_add_one, List.getElem?_eq_getElem (by omega)]
      simp [hk, List.getElem?_eq_getElem (show cnt ks i < fr.length by omega)]
theorem map_getD (xs : List Nat) : (List.range xs.length).map (fun j => xs.getD j 0) = xs := by
  apply List.ext_getElem
  · rw [List.length_map, List.length_range]
  · intro i h1 h2
    rw [List.getElem_map, List.getElem_range, List.getD_eq_getElem?_getD, List.getElem?_eq_getElem h2]
    rfl
theorem filt_perm {α : Type} (p : α → Bool) : ∀ l : List α, (l.filter p ++ l.filter fun x => !p x).Perm l
  | [] => List.Perm.refl _
  | x :: l => by
    rw [List.filter_cons, List.filter_cons]
    cases h : p x
    · simp only [Bool.false_eq_true, if_false, Bool.not_false, if_true]
      exact List.perm_middle.trans ((filt_perm p l).cons x)
    · simp only [if_true, Bool.not_true, Bool.false_eq_true, if_false]
      exact (filt_perm p l).cons x
theorem chg_get {n : Nat} {ws G ks : List Nat} {j : Nat} (hj : j < ws.length) : (chg n ws G ks).getD j 0 = if j ∉ ks then (freeOf n ws G ks).getD (cnt ks j) 0 else ws.getD j 0 := by
  unfold chg
  rw [fill_get ks ws _ _ (Nat.le_refl _) j hj]
  by_cases h : j ∉ ks
  · rw [if_pos ⟨hj, h⟩, if_pos h]
  · rw [if_neg (fun z => h z.2), if_neg h]
theorem chg_len (n : Nat) (ws G ks : List Nat) : (chg n ws G ks).length = ws.length := fillN_len _ _ _ _
theorem chg_perm {n : Nat} {ws G ks : List Nat} (hn : ks.Nodup) (hlt : ∀ i ∈ ks, i < ws.length) (hf : (freeOf n ws G ks).length = cnt ks ws.length) : (chg n ws G ks).Perm (at_ ws ks ++ freeOf n ws G ks) := by
  have e1 : chg n ws G ks = (List.range ws.length).map fun j => (chg n ws G ks).getD j 0 := by
    conv => lhs; rw [← map_getD (chg n ws G ks), chg_len]
  rw [e1]
  refine ((filt_perm (fun j => decide (j ∈ ks)) (List.range ws.length)).symm.map _).trans ?_
  rw [List.map_append]
  refine List.Perm.append ?_ ?_
  · have e2 : ((List.range ws.length).filter fun j => decide (j ∈ ks)).map (fun j => (chg n ws G ks).getD j 0) = at_ ws ((List.range ws.length).filter fun j => decide (j ∈ ks)) := by
      unfold at_
      apply List.map_congr_left
      intro j hj
      obtain ⟨h1, h2⟩ := List.mem_filter.mp hj
      rw [chg_get (List.mem_range.mp h1), if_neg (fun h => h (of_decide_eq_true h2))]
    rw [e2]
    unfold at_
    refine List.Perm.map _ ?_
    exact perm_of_sub (List.nodup_range.filter _) hn (fun x hx => of_decide_eq_true (List.mem_filter.mp hx).2) (len_le_of_sub hn (fun x hx => List.mem_filter.mpr ⟨List.mem_range.mpr (hlt x hx), decide_eq_true hx⟩))
  · have e3 : ((List.range ws.length).filter fun j => !decide (j ∈ ks)).map (fun j => (chg n ws G ks).getD j 0) = ((List.range ws.length).filter fun j => decide (j ∉ ks)).map fun j => (freeOf n ws G ks).getD (cnt ks j) 0 := by
      have e4 : ((List.range ws.length).filter fun j => !decide (j ∈ ks)) = (List.range ws.length).filter fun j => decide (j ∉ ks) := by
        apply List.filter_congr
        intro x _
        by_cases h : x ∈ ks <;> simp [h]
      rw [e4]
      apply List.map_congr_left
      intro j hj
      obtain ⟨h1, h2⟩ := List.mem_filter.mp hj
      rw [chg_get (List.mem_range.mp h1), if_pos (of_decide_eq_true h2)]
    rw [e3, take_fr ks _ _ (by omega), ← hf, List.take_length]
end Ma
namespace Ma
open Px
theorem fold_free {n : Nat} : ∀ (F T : List Nat), F.Nodup → (∀ x ∈ F, x ∉ T) → (∀ x ∈ F, x < n) → F.foldl (add1 n) T = T ++ F
  | [], T, _, _, _ => by simp
  | x :: F, T, hn, hd, hx => by
    have h1 := List.nodup_cons.mp hn
    have hxn := hx x List.mem_cons_self
    have hxT := hd x List.mem_cons_self
    have e : add1 n T x = T ++ [x] := by
      unfold add1
      rw [nx_eq (n := n) (T := T) (k := 0) (f := n) hxn (by omega) (by rw [Nat.add_zero, Nat.mod_eq_of_lt hxn]; exact hxT) (fun j hj => by omega), Nat.add_zero, Nat.mod_eq_of_lt hxn]
    rw [List.foldl_cons, e, fold_free F _ h1.2 (fun y hy h => ?_) (fun y hy => hx y (List.mem_cons_of_mem _ hy)), List.append_assoc]
    · rfl
    · rcases List.mem_append.mp h with h | h
      · exact hd y (List.mem_cons_of_mem _ hy) h
      · rw [List.mem_singleton] at h
        rw [h] at hy
        exact h1.1 hy
theorem ham_self : ∀ xs : List Nat, ham xs xs = 0
  | [] => rfl
  | x :: xs => by rw [ham_cons, ham_self xs, if_pos rfl]
def agree (R ws : List Nat) : List Nat := (List.range ws.length).filter fun i => decide (R.getD i 0 = ws.getD i 0)
theorem agree_len {R ws : List Nat} (h : R.length = ws.length) : (agree R ws).length + ham R ws = ws.length := by
  have h1 := len_split (fun i => decide (R.getD i 0 = ws.getD i 0)) (List.range ws.length)
  rw [List.length_range] at h1
  have h2 : ((List.range ws.length).filter fun i => !decide (R.getD i 0 = ws.getD i 0)).length = ham R ws := by
    rw [← ham_idx R ws h, h]
    congr 1
    apply List.filter_congr
    intro x _
    by_cases h : R.getD x 0 = ws.getD x 0 <;> simp [h]
  unfold agree
  omega
theorem agree_kb {n : Nat} {G R ws : List Nat} (hb : blkB n G = true) (hl : R.length = ws.length) (hn : ws.length ≤ n) (hR : ∀ x ∈ R, x < n) (hf : fitsB n G R = true) : KBX n G (at_ ws (agree R ws)) := by
  refine kbx_sub (fits_kb hb (by omega) hR hf) ?_
  have e : at_ ws (agree R ws) = (agree R ws).map fun i => R.getD i 0 := by
    unfold at_
    apply List.map_congr_left
    intro i hi
    exact (of_decide_eq_true (List.mem_filter.mp hi).2).symm
  rw [e]
  have h1 : ((agree R ws).map fun i => R.getD i 0).Sublist ((List.range R.length).map fun i => R.getD i 0) := by
    unfold agree
    rw [hl]
    exact (List.filter_sublist).map _
  rw [map_getD] at h1
  exact h1
theorem min_le (ws : List Nat) (v : Nat) : ∀ (L : List (List Nat)) (l : Nat), v ≤ l → (∀ r ∈ L, v ≤ ham r ws) → v ≤ L.foldl (minL ws) l
  | [], l, h, _ => h
  | r :: L, l, h, hr => by
    rw [List.foldl_cons]
    refine min_le ws v L _ ?_ (fun x hx => hr x (List.mem_cons_of_mem _ hx))
    have := hr r List.mem_cons_self
    unfold minL
    split <;> omega
theorem le_min (ws : List Nat) : ∀ (L : List (List Nat)) (l : Nat), L.foldl (minL ws) l ≤ l ∧ ∀ r ∈ L, L.foldl (minL ws) l ≤ ham r ws
  | [], l => ⟨Nat.le_refl _, fun r h => by simp at h⟩
  | r :: L, l => by
    rw [List.foldl_cons]
    obtain ⟨h1, h2⟩ := le_min ws L (minL ws l r)
    have h3 : minL ws l r ≤ l ∧ minL ws l r ≤ ham r ws := by
      unfold minL
      split <;> omega
    refine ⟨by omega, fun x hx => ?_⟩
    rcases List.mem_cons.mp hx with rfl | hx
    · omega
    · exact h2 x hx
theorem mathF : MathF := by
  intro n ws G n2 n6 l4 hl hw hr hG hgl
  have hGn : G.Nodup := SetLt (n := n) hr
  have main : ∀ ks, KeptOf n ws G ks → ks.Nodup ∧ (∀ i ∈ ks, i < ws.length) ∧ (∀ x ∈ chg n ws G ks, x < n) ∧ fitsB n G (chg n ws G ks) = true ∧ ham (chg n ws G ks) ws = ws.length - ks.length ∧
      ∀ R, R.length = ws.length → (∀ x ∈ R, x < n) → fitsB n G R = true → ws.length - ks.length ≤ ham R ws := by
    intro ks hks
    by_cases hn : G.length = n
    · have e := hks.1 hn
      subst e
      have hc : chg n ws G (List.range ws.length) = ws := by
        have e1 : chg n ws G (List.range ws.length) = (List.range ws.length).map fun j => (chg n ws G (List.range ws.length)).getD j 0 := by
          conv => lhs; rw [← map_getD (chg n ws G (List.range ws.length)), chg_len]
        rw [e1]
        conv => rhs; rw [← map_getD ws]
        apply List.map_congr_left
        intro j hj
        rw [chg_get (List.mem_range.mp hj), if_neg (fun h => h hj)]
      have hall : ∀ x, x < n → x ∈ G := fun x hx => (perm_of_sub hGn List.nodup_range (fun y hy => List.mem_range.mpr (hG y hy)) (by rw [List.length_range]; omega)).mem_iff.mpr (List.mem_range.mpr hx)
      rw [hc, List.length_range, ham_self, Nat.sub_self]
      refine ⟨List.nodup_range, fun i hi => List.mem_range.mp hi, hw, ?_, rfl, fun R _ _ _ => Nat.zero_le _⟩
      unfold fitsB
      rw [List.all_eq_true]
      exact fun x hx => decide_eq_true (hall x ((spots_tk hl hw).lt x hx))
    · have hb := blk_all n6 hr hG hn
      have K := ks_ok hb hn hks
      have hatn : ∀ x ∈ at_ ws ks, x < n := fun x hx => hG x (K.kb.2 x hx)
      have hkl : ks.length ≤ ws.length := by have := cnt_all K.nd K.lt; omega
      have hal := at_len ws ks
      have hTG : ∀ z ∈ takenOf n ws ks, z ∈ G := fun z hz => by
        have h1 := kb_spots hb (by rw [hal]; omega) hatn K.kb (at_ ws ks).length (Nat.le_refl _) z
        rw [List.take_length] at h1
        exact h1 hz
      have htk := spots_tk (n := n) (ws := at_ ws ks) (by rw [hal]; omega) hatn
      have hTl : (takenOf n ws ks).length = ks.length := by unfold takenOf; rw [spots_len, hal]
      have hfl : (freeOf n ws G ks).length + ks.length = G.length := by
        have h1 := free_len (n := n) (ws := ws) (ks := ks) hGn
        have h2 := len_split (fun p => decide (p ∈ takenOf n ws ks)) G
        have h3 : ks.length ≤ (G.filter fun p => decide (p ∈ takenOf n ws ks)).length := by
          rw [← hTl]
          exact len_le_of_sub htk.nd (fun x hx => List.mem_filter.mpr ⟨hTG x hx, decide_eq_true hx⟩)
        have h4 : (G.filter fun p => !decide (p ∈ takenOf n ws ks)).length = (freeOf n ws G ks).length := by
          unfold freeOf
          congr 1
          apply List.filter_congr
          intro x _
          by_cases h : x ∈ takenOf n ws ks <;> simp [h]
        omega
      have hca := cnt_all K.nd K.lt
      have hp := chg_perm (n := n) (G := G) K.nd K.lt (by omega)
      have hfG : ∀ x ∈ freeOf n ws G ks, x ∈ G := fun x hx => (List.mem_filter.mp hx).1
      have hcG : ∀ x ∈ chg n ws G ks, x ∈ G := fun x hx => by
        rcases List.mem_append.mp (hp.mem_iff.mp hx) with h | h
        · exact K.kb.2 x h
        · exact hfG x h
      have hcn : ∀ x ∈ chg n ws G ks, x < n := fun x hx => hG x (hcG x hx)
      have hcf : fitsB n G (chg n ws G ks) = true := by
        rw [fits_perm hp (by rw [chg_len]; exact hl) hcn]
        unfold fitsB
        rw [List.all_eq_true]
        intro z hz
        have e : spots n (at_ ws ks ++ freeOf n ws G ks) = takenOf n ws ks ++ freeOf n ws G ks := by
          have e2 : spots n (at_ ws ks ++ freeOf n ws G ks) = (freeOf n ws G ks).foldl (add1 n) (takenOf n ws ks) := by
            unfold spots takenOf spots
            rw [List.foldl_append]
          rw [e2]
          refine fold_free _ _ (hGn.filter _) (fun x hx => ?_) (fun x hx => hG x (hfG x hx))
          exact of_decide_eq_true (List.mem_filter.mp hx).2
        rw [e] at hz
        refine decide_eq_true ?_
        rcases List.mem_append.mp hz with h | h
        · exact hTG z h
        · exact hfG z h
      have hmin : ∀ R, R.length = ws.length → (∀ x ∈ R, x < n) → fitsB n G R = true → ws.length - ks.length ≤ ham R ws := by
        intro R hR1 hR2 hR3
        have h1 := max_kept hb K.kb K.mx (agree_kb hb hR1 hl hR2 hR3) (List.nodup_range.filter _) (fun i hi => List.mem_range.mp (List.mem_filter.mp hi).1)
        have h2 := agree_len hR1
        omega
      refine ⟨K.nd, K.lt, hcn, hcf, ?_, hmin⟩
      have h1 := hmin _ (chg_len n ws G ks) hcn hcf
      have h2 := agree_len (chg_len n ws G ks)
      have h3 : ks.length ≤ (agree (chg n ws G ks) ws).length := len_le_of_sub K.nd (fun i hi => by
        refine List.mem_filter.mpr ⟨List.mem_range.mpr (K.lt i hi), decide_eq_true ?_⟩
        rw [chg_get (K.lt i hi), if_neg (fun h => h hi)])
      omega
  have least : ∀ ks, KeptOf n ws G ks → leastL n ws G = ws.length - ks.length := by
    intro ks hks
    obtain ⟨h1, h2, h3, h4, h5, h6⟩ := main ks hks
    have hm : chg n ws G ks ∈ fitsL n ws.length G := List.mem_filter.mpr ⟨mem_rowsL.mpr ⟨chg_len n ws G ks, h3⟩, h4⟩
    have a1 := (le_min ws (fitsL n ws.length G) 9).2 _ hm
    have a2 := min_le ws (ws.length - ks.length) (fitsL n ws.length G) 9 (by omega) (fun r hr' => by
      obtain ⟨b1, b2⟩ := List.mem_filter.mp hr'
      obtain ⟨b3, b4⟩ := mem_rowsL.mp b1
      exact h6 r b3 b4 b2)
    unfold leastL
    omega
  refine ⟨fun ks hks => ?_, fun ks hks => ?_⟩
  · obtain ⟨h1, h2, h3, h4, h5, h6⟩ := main ks hks
    exact ⟨h1, h2, (least ks hks).symm⟩
  · obtain ⟨h1, h2, h3, h4, h5, h6⟩ := main ks hks
    exact mem_good (chg_len n ws G ks) h3 h4 (by rw [h5, least ks hks])
end Ma
open PySem PySem.W L2 PyProof.Rows Kx Tx Ma Px
set_option maxRecDepth 100000 in
set_option maxHeartbeats 0 in
theorem PySem.Challenge.cw_parksums_k32_whole_changes_holds : PySem.Challenge.rw_parksums_k32_whole_changes.Holds := by
  w_on; o_law; k_head; (case hw => w_witness2)
  k_fill
  refine walk_top (l := PySem.Challenge.rw_parksums_k32_whole_changes) (n := 63) (k := 10) (x := "_law_script") (CX := fun _ => CX0) rfl (by decide) rfl ⟨rfl, by decide, by decide⟩ (fun w h Y => PySem.W.kIn_of Y) ?F (fun _ _ _ _ _ h => h)
  case F =>
    intro w lo mean mg mb fa h KX TT hmg
    refine' law_all (q := _) Ma.mathF Ma.mathE KX TT hmg ?a_0 ?l_0 ?k1_0 ?k2_0 ?a_1 ?l_1 ?k1_1 ?k2_1 ?a_2 ?l_2 ?k1_2 ?k2_2 ?a_3 ?l_3 ?k1_3 ?k2_3 ?a_4 ?l_4 ?k1_4 ?k2_4 ?a_5 ?l_5 ?k1_5 ?k2_5 ?a_6 ?l_6 ?k1_6 ?k2_6 ?a_7 ?l_7 ?k1_7 ?k2_7 ?a_8 ?l_8 ?k1_8 ?k2_8 ?a_9 ?l_9 ?k1_9 ?k2_9 ?a_10 ?l_10 ?k1_10 ?k2_10 ?a_11 ?l_11 ?k1_11 ?k2_11 ?a_12 ?l_12 ?k1_12 ?k2_12 ?a_13 ?l_13 ?k1_13 ?k2_13 ?a_14 ?l_14 ?k1_14 ?k2_14 ?a_15 ?l_15 ?k1_15 ?k2_15 ?a_16 ?l_16 ?k1_16 ?k2_16 ?a_17 ?l_17 ?k1_17 ?k2_17 ?a_18 ?l_18 ?k1_18 ?k2_18 ?a_19 ?l_19 ?k1_19 ?k2_19 ?a_20 ?l_20 ?k1_20 ?k2_20 ?a_21 ?l_21 ?k1_21 ?k2_21 ?a_22 ?l_22 ?k1_22 ?k2_22 ?a_23 ?l_23 ?k1_23 ?k2_23 ?a_24 ?l_24 ?k1_24 ?k2_24 ?a_25 ?l_25 ?k1_25 ?k2_25 ?a_26 ?l_26 ?k1_26 ?k2_26 ?a_27 ?l_27 ?k1_27 ?k2_27 ?a_28 ?l_28 ?k1_28 ?k2_28 ?a_29 ?l_29 ?k1_29 ?k2_29 ?a_30 ?l_30 ?k1_30 ?k2_30 ?a_31 ?l_31 ?k1_31 ?k2_31 ?a_32 ?l_32 ?k1_32 ?k2_32 ?z_0 ?z_1 ?z_2 ?z_3 ?z_4 ?z_5 ?z_6 ?z_7 ?z_8 ?z_9 ?z_10 ?z_11 ?z_12 ?z_13 ?z_14 ?zg ?zl ?zm ?zle ?zme ?t_0 ?n_0 ?r_0 ?t_1 ?n_1 ?r_1 ?t_2 ?n_2 ?r_2 ?t_3 ?n_3 ?r_3
    (case a_0 => k_is)
    (case l_0 => k_is)
    (case k1_0 => k_is)
    (case k2_0 => k_is)
    (case a_1 => k_is)
    (case l_1 => k_is)
    (case k1_1 => k_is)
    (case k2_1 => k_is)
    (case a_2 => k_is)
    (case l_2 => k_is)
    (case k1_2 => k_is)
    (case k2_2 => k_is)
    (case a_3 => k_is)
    (case l_3 => k_is)
    (case k1_3 => k_is)
    (case k2_3 => k_is)
    (case a_4 => k_is)
    (case l_4 => k_is)
    (case k1_4 => k_is)
    (case k2_4 => k_is)
    (case a_5 => k_is)
    (case l_5 => k_is)
    (case k1_5 => k_is)
    (case k2_5 => k_is)
    (case a_6 => k_is)
    (case l_6 => k_is)
    (case k1_6 => k_is)
    (case k2_6 => k_is)
    (case a_7 => k_is)
    (case l_7 => k_is)
    (case k1_7 => k_is)
    (case k2_7 => k_is)
    (case a_8 => k_is)
    (case l_8 => k_is)
    (case k1_8 => k_is)
    (case k2_8 => k_is)
    (case a_9 => k_is)
    (case l_9 => k_is)
    (case k1_9 => k_is)
    (case k2_9 => k_is)
    (case a_10 => k_is)
    (case l_10 => k_is)
    (case k1_10 => k_is)
    (case k2_10 => k_is)
    (case a_11 => k_is)
    (case l_11 => k_is)
    (case k1_11 => k_is)
    (case k2_11 => k_is)
    (case a_12 => k_is)
    (case l_12 => k_is)
    (case k1_12 => k_is)
    (case k2_12 => k_is)
    (case a_13 => k_is)
    (case l_13 => k_is)
    (case k1_13 => k_is)
    (case k2_13 => k_is)
    (case a_14 => k_is)
    (case l_14 => k_is)
    (case k1_14 => k_is)
    (case k2_14 => k_is)
    (case a_15 => k_is)
    (case l_15 => k_is)
    (case k1_15 => k_is)
    (case k2_15 => k_is)
    (case a_16 => k_is)
    (case l_16 => k_is)
    (case k1_16 => k_is)
    (case k2_16 => k_is)
    (case a_17 => k_is)
    (case l_17 => k_is)
    (case k1_17 => k_is)
    (case k2_17 => k_is)
    (case a_18 => k_is)
    (case l_18 => k_is)
    (case k1_18 => k_is)
    (case k2_18 => k_is)
    (case a_19 => k_is)
    (case l_19 => k_is)
    (case k1_19 => k_is)
    (case k2_19 => k_is)
    (case a_20 => k_is)
    (case l_20 => k_is)
    (case k1_20 => k_is)
    (case k2_20 => k_is)
    (case a_21 => k_is)
    (case l_21 => k_is)
    (case k1_21 => k_is)
    (case k2_21 => k_is)
    (case a_22 => k_is)
    (case l_22 => k_is)
    (case k1_22 => k_is)
    (case k2_22 => k_is)
    (case a_23 => k_is)
    (case l_23 => k_is)
    (case k1_23 => k_is)
    (case k2_23 => k_is)
    (case a_24 => k_is)
    (case l_24 => k_is)
    (case k1_24 => k_is)
    (case k2_24 => k_is)
    (case a_25 => k_is)
    (case l_25 => k_is)
    (case k1_25 => k_is)
    (case k2_25 => k_is)
    (case a_26 => k_is)
    (case l_26 => k_is)
    (case k1_26 => k_is)
    (case k2_26 => k_is)
    (case a_27 => k_is)
    (case l_27 => k_is)
    (case k1_27 => k_is)
    (case k2_27 => k_is)
    (case a_28 => k_is)
    (case l_28 => k_is)
    (case k1_28 => k_is)
    (case k2_28 => k_is)
    (case a_29 => k_is)
    (case l_29 => k_is)
    (case k1_29 => k_is)
    (case k2_29 => k_is)
    (case a_30 => k_is)
    (case l_30 => k_is)
    (case k1_30 => k_is)
    (case k2_30 => k_is)
    (case a_31 => k_is)
    (case l_31 => k_is)
    (case k1_31 => k_is)
    (case k2_31 => k_is)
    (case a_32 => k_is)
    (case l_32 => k_is)
    (case k1_32 => k_is)
    (case k2_32 => k_is)
    (case z_0 => k_is)
    (case z_1 => k_is)
    (case z_2 => k_is)
    (case z_3 => k_is)
    (case z_4 => k_is)
    (case z_5 => k_is)
    (case z_6 => k_is)
    (case z_7 => k_is)
    (case z_8 => k_is)
    (case z_9 => k_is)
    (case z_10 => k_is)
    (case z_11 => k_is)
    (case z_12 => k_is)
    (case z_13 => k_is)
    (case z_14 => k_is)
    (case zg => k_is)
    (case zl => k_is)
    (case zm => k_is)
    (case zle => exact ⟨_, rfl⟩)
    (case zme => exact ⟨_, rfl⟩)
    (case t_0 => first | k_is | rfl | kernel_rfl)
    (case n_0 => first | k_is | kernel_rfl | rfl)
    (case r_0 => first | k_is | kernel_rfl | rfl)
    (case t_1 => first | k_is | rfl | kernel_rfl)
    (case n_1 => first | k_is | kernel_rfl | rfl)
    (case r_1 => first | k_is | kernel_rfl | rfl)
    (case t_2 => first | k_is | rfl | kernel_rfl)
    (case n_2 => first | k_is | kernel_rfl | rfl)
    (case r_2 => first | k_is | kernel_rfl | rfl)
    (case t_3 => first | k_is | rfl | kernel_rfl)
    (case n_3 => first | k_is | kernel_rfl | rfl)
    (case r_3 => first | k_is | kernel_rfl | rfl)
