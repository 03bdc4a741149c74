import PyProof.Rows.All
import Wide.All
import OpenK.AllK
import Wide.FinOn
import PyProof.EqAt
import PyProof.EqKinds
import PyProof.TupleCall
import HandS.ForMost
import HandS.AnyAll
import HandS.GenOver
import HandS.GenList
import KE.KLam
import KE.SortKeyHeap
import KE.SortLaws
import HandS.Conv
import HandS.Lambda
import KE.GoesMore
import HandS.TupAny
import HandS.TupMul
import HandS.TupSets
import HandS.Walk
import HandS.IsInst
import HandS.Style
import HandS.Defaults
import HandS.Codes
import HandS.HeadHook2
import PySem.Challenge.RW_onelife_k21_whole_loud_tables
import HandS.Deep
import HandS.Comp
import HandS.Dict
import HandS.Zip
import KE.KStateDown
import HandS.Base
import HandS.Call
import HandS.Ends
import HandS.More
import HandS.Words
import HandS.WordsExc
import HandS.Head0
import HandS.Head1
import HandS.Head2
import HandS.HeadEnd
import HandS.HeadHook1
import HandS.HeadHook3
import HandS.HeadHook4
import HandS.HeadWalk
set_option Elab.async false
set_option linter.all false
set_option maxRecDepth 100000
set_option maxHeartbeats 4000000
/-! all(elt for x in iter), the element any expression that raises nothing: it may call defs that make generators themselves -/
namespace GA
open PySem PySem.Spec PyProof.Rows L2 GenW

/-- the generator's frame -/
abbrev genE (X : Cx) (scope : Scope) (L : Addr) (code : Value) : Env := genEnv scope (cloFrom X.env.cells scope.names []) L code builtinsNs X.env
/-- the context of the element -/
def genCx (X : Cx) (A : Around) (s : Shared) (H : Hp) (ex : List Addr) (scope : Scope) (code : Value) : Cx where
  prog := X.prog
  w := X.w
  K := X.K
  mg := X.mg
  base := X.base
  A := A
  N := X.N
  s_0 := s
  H_0 := H
  env := genE X scope s.heap.objs.size code
  outer := X.stack
  stack := genE X scope s.heap.objs.size code :: X.stack
  ex := ex
  fn := fun _ => false
  calm := true
  pn := []
  xe := fun _ _ => False

/-- the generator expression's own scope -/
structure GenS2 (sc : Scope) (N : List Str) (scope : Scope) (x : Str) : Prop where
  kind : scope.kind = .function
  co : scope.isCoroutine = false
  cell : ∀ y ∈ scope.names, y.2 ≠ .cell
  dot : scope.names.lookup (".0" : Str) = some NameKind.local
  loc : scope.names.lookup x = some .local
  own : ∀ y ∈ scope.names, y.2 = .local → y.1 = (".0" : Str) ∨ y.1 = x
  free : ∀ y ∈ scope.names, y.2 = .free → sc.names.lookup y.1 = some .cell ∨ sc.names.lookup y.1 = some .free
  nod : (".0" : Str) ∉ N
def genSB (sc : Scope) (N : List Str) (scope : Scope) (x : Str) : Bool :=
  decide (scope.kind = .function) && !scope.isCoroutine && decide (scope.names.lookup (".0" : Str) = some NameKind.local) && decide (scope.names.lookup x = some .local) && !N.contains (".0" : Str) &&
    scope.names.all fun y => !decide (y.2 = .cell) && (!decide (y.2 = .local) || decide (y.1 = (".0" : Str)) || decide (y.1 = x)) && (!decide (y.2 = .free) || decide (sc.names.lookup y.1 = some .cell) || decide (sc.names.lookup y.1 = some .free))
theorem genS_by {sc : Scope} {N : List Str} {scope : Scope} {x : Str} (h : genSB sc N scope x = true) : GenS2 sc N scope x := by
  unfold genSB at h
  simp only [Bool.and_eq_true, Bool.or_eq_true, Bool.not_eq_true', decide_eq_true_eq, decide_eq_false_iff_not, List.all_eq_true] at h
  obtain ⟨⟨⟨⟨⟨h1, h2⟩, h3⟩, h4⟩, h5⟩, h6⟩ := h
  refine ⟨h1, h2, fun y hy => (h6 y hy).1.1, h3, h4, fun y hy e => ?_, fun y hy e => ?_, fun hm => ?_⟩
  · rcases (h6 y hy).1.2 with (z | z) | z
    · exact absurd e z
    · exact .inl z
    · exact .inr z
  · rcases (h6 y hy).2 with (z | z) | z
    · exact absurd e z
    · exact .inl z
    · exact .inr z
  · rw [List.contains_iff_mem.mpr hm] at h5
    cases h5
section
variable {X : Cx} {scope : Scope} {x : Str}
theorem GenS2.has (S : GenS2 X.env.scope X.N scope x) (ok : X.Ok) : ∀ y ∈ scope.names, y.2 = .free → ∃ c, X.env.cells.lookup y.1 = some c := fun y hy e => by
  rcases S.free y hy e with k | k
  · exact ok.has _ (.inl k)
  · exact ok.has _ (.inr k)

/-- the generator has been made: its frame's invariant. s4, H: just ahead of the frame's making -/
theorem gen_start {pins : List (Addr × Obj)} {σ : L2.St} {H : Hp} {s4 s6 : Shared} {A : Around} {ex : List Addr} {code : Value} {k : Nat} {g : Addr} {go : Obj} {it : Value} (I : Inv X pins σ H s4) (S : GenS2 X.env.scope X.N scope x) (hN : X.N.Nodup) (hk : X.N[k]? = some x)
    (hA : A.handled = none) (hfr : A.frames = some (genE X scope s4.heap.objs.size code :: X.stack)) (hex : ∀ b ∈ ex, FpOk X pins H b ∧ b < s4.heap.objs.size)
    (os : s6.os = s4.os) (hb : AllBare s6.gens) (hns : s6.heap.Ns s4.heap.objs.size (fun y => if y = (".0" : Str) then some it else none)) (kp : ∀ b o, s4.heap.get? b = some o → s6.heap.get? b = some o)
    (hg : s4.heap.objs.size < g) (hgo : s6.heap.get? g = some go) (hgd : ∀ v, go.data ≠ .cell v) :
    Inv (genCx X A s4 H ex scope code) [(g, go)] (σ.set k none) H s6 := by
  have hfree := S.has I.ok
  have cm : ∀ {y c}, (cloFrom X.env.cells scope.names []).lookup y = some c → X.env.cells.lookup y = some c := fun {y c} e => by
    rcases cloFrom_mem (PySem.mem_of_lookup e) with hm | ⟨h1, h2⟩
    · cases hm
    · obtain ⟨c1, hc⟩ := hfree _ h1 rfl
      have hc : X.env.cells.lookup y = some c1 := hc
      have e2 : c = c1 := by
        rw [h2, hc] <;> rfl
      rw [e2]
      exact hc
  have look : ∀ {y}, scope.names.lookup y = some .free → ∃ c, (cloFrom X.env.cells scope.names []).lookup y = some c := fun {y} hl => by
    have hy : (y, NameKind.free) ∈ scope.names := PySem.mem_of_lookup hl
    exact mem_lookup (cloFrom_has (cells := X.env.cells) (acc := []) hy)
  have cellK : ∀ {c : Addr} {v : Option Value}, s4.heap.IsCell c v → s6.heap.IsCell c v := fun {c v} ⟨o, ho, hd⟩ => ⟨_, kp _ _ ho, hd⟩
  have celt : ∀ {y c}, (cloFrom X.env.cells scope.names []).lookup y = some c → c < s4.heap.objs.size := fun {y c} e => by
    obtain ⟨v, o, ho, _⟩ := I.cell y c (cm e)
    exact Heap.lt_size ho
  have nofr : ∀ b, b < s4.heap.objs.size → b ≠ g := fun b hb e => by
    rw [e] at hb
    exact Nat.lt_irrefl _ (Nat.lt_trans hb hg)
  refine ⟨⟨I.ok.mod, S.kind, I.ok.glob, rfl, Nat.le_refl _, fun y z c e1 e2 => I.ok.inj y z c (cm e1) (cm e2), fun y hy => ?_, fun y c z _ => ?_, fun _ => hA, hfr, .inr ⟨rfl, rfl⟩, fun b hb => ?_, I.bs, Nat.le_trans I.ok.bsz I.sz, fun b o e hb => ?_,
      fun b hb hm => ?_, I.stack, I.stkFree⟩,
    os, hb, Un.kept kp, ⟨_, hns, fun i y v e1 e2 e3 => ?_⟩, fun y c e => ?_, I.hok.fresh (Nat.le_refl _), fun y c e => I.freeC y c (cm e), fun q hq => ?_, I.hok.kept kp, ?_⟩
  · have hy : scope.names.lookup y = some .cell ∨ scope.names.lookup y = some .free := hy
    rcases hy with hy | hy
    · exact absurd rfl (S.cell _ (PySem.mem_of_lookup hy))
    · exact look hy
  · have z : false = true := z
    cases z
  · obtain ⟨hf, hlt⟩ := hex b hb
    exact ⟨Nat.ne_of_lt hlt, fun y c e => hf.2.2.2.2.1 y c (cm e)⟩
  · obtain ⟨hf, hlt⟩ := hex b hb
    rcases hf.2.2.2.1 with z | z
    · exact I.ok.noex b o e z
    · have h1 := Heap.lt_size e
      exact absurd (Nat.lt_of_lt_of_le h1 (Nat.le_trans I.ok.bsz z)) (Nat.lt_irrefl _)
  · obtain ⟨hf, hlt⟩ := hex b hb
    rcases List.mem_cons.mp (I.stkSub b hm) with z | z
    · exact hf.2.1 z
    · exact hf.2.2.1 z
  · have e3 : Vis scope y := e3
    rcases e3 with k' | k' | k'
    · have hy : (y, NameKind.local) ∈ scope.names := PySem.mem_of_lookup k'
      rcases S.own _ hy rfl with z | z
      · have z : y = (".0" : Str) := z
        rw [z] at e1
        exact absurd (List.mem_of_getElem? e1) S.nod
      · have z : y = x := z
        exfalso
        rw [z] at e1
        by_cases hik : i = k
        · rw [hik] at e2
          have hlt : k < σ.length := by rw [I.len]; exact (List.getElem?_eq_some_iff.mp hk).1
          rw [List.getElem?_set_self hlt] at e2
          cases e2
        · exact hik (nodup_ix hN e1 hk)
    · exact absurd rfl (S.cell _ (PySem.mem_of_lookup k'))
    · obtain ⟨m, hn, hl⟩ := I.loc
      have hvis : Vis X.env.scope y := (S.free _ (PySem.mem_of_lookup k') rfl).elim (fun k => .inr (.inl k)) (fun k => .inr (.inr k))
      have e2' : σ[i]? = some (some v) := by
        by_cases hik : i = k
        · rw [hik] at e2
          have hlt : k < σ.length := by rw [I.len]; exact (List.getElem?_eq_some_iff.mp hk).1
          rw [List.getElem?_set_self hlt] at e2
          cases e2
        · rwa [List.getElem?_set_ne (Ne.symm hik)] at e2
      obtain ⟨w', r, q⟩ := hl i y v e1 e2' hvis
      obtain ⟨c2, h2⟩ := look k'
      refine ⟨w', r, .inr ⟨.inr k', c2, h2, ?_⟩⟩
      have c1 := cm h2
      rcases q with ⟨k2, _⟩ | ⟨_, c3, e', z⟩
      · have k2 : X.env.scope.names.lookup y = some .local := k2
        rcases S.free _ (PySem.mem_of_lookup k') rfl with k3 | k3 <;> rw [show X.env.scope.names.lookup y = _ from k3] at k2 <;> cases k2
      · rw [c1] at e'
        cases e'
        exact cellK z
  · obtain ⟨w', z⟩ := I.cell y c (cm e)
    exact ⟨w', cellK z⟩
  · have hq : q = (g, go) := List.mem_singleton.mp (show q ∈ [(g, go)] from hq)
    subst hq
    have hle : s4.heap.objs.size ≤ g := Nat.le_of_lt hg
    refine ⟨hgo, I.hok.fresh hle, Nat.ne_of_gt hg, fun hm => ?_, hgd⟩
    rcases List.mem_cons.mp (I.stkSub g hm) with z | z
    · have h1 := I.lt
      rw [← z] at h1
      exact Nat.lt_irrefl _ (Nat.lt_of_lt_of_le h1 hle)
    · exact I.nofs hle z
  · rw [List.length_set]
    exact I.len
end

section
variable {X Xg : Cx} {pins : List (Addr × Obj)} {Q : VK}
/-- the generator's end; no exception leaves it -/
def AEnd (Xg : Cx) (pins : List (Addr × Obj)) (Q : VK) : GenEnd := fun _ _ r s => ((r = .ok (.ret .none) ∨ r = .ok .next) ∧ ∃ σ H, Inv Xg pins σ H s ∧ Q (.bl true) H) ∨ ∃ e, r = .error e ∧ False
/-- an item: a truth value -/
def AItem (Xg : Cx) (pins : List (Addr × Obj)) (Q : VK) : Protocol := fun _ _ v s kap => ∃ b : Bool, v = .bool b ∧ (∃ σ H, Inv Xg pins σ H s ∧ (b = false → Q (.bl false) H)) ∧
  (b = true → ∀ s' : Shared, s'.heap = s.heap → s'.os = s.os → AllBare s'.gens → kap (.send .none) s')
theorem inv_same {σ : L2.St} {H : Hp} {s s' : Shared} (I : Inv Xg pins σ H s) (h1 : s'.heap = s.heap) (h2 : s'.os = s.os) (h3 : AllBare s'.gens) : Inv Xg pins σ H s' := by
  refine I.call' (ch := []) h2 (by rw [h1]; exact Un.refl) (by rw [h1]; exact I.hok) h3 fun b hb => by cases hb

/-- all's loop over the generator -/
theorem all_loop {A : Around} {R : Result → Shared → Prop} {a : Addr} {g : Nat} {go : Obj} (hh : A.handled = none) (hd : A.depth < recursionLimit) (hpin : (a, go) ∈ Xg.pn ++ pins) (hgo : ∀ h : Heap, h.get? a = some go → h.IsGen a g)
    (hend : ∀ (b : Bool) σ H s', Inv Xg pins σ H s' → Q (.bl b) H → R (.ok (.ret (.bool b))) s') :
    ∀ (n : Nat) (s : Shared), (∃ σ H, Inv Xg pins σ H s) →
      (∃ gs, s.gens[g]? = some gs ∧ gs.Goes (model Xg.prog Xg.w) A.in1.in1 (AEnd Xg pins Q) (AItem Xg pins Q) n (.send .none) (s.setGen g .running)) →
      codeAny (model Xg.prog Xg.w) A (.builtin "all.loop" ⟨[.ref a], []⟩) R s := by
  have goes : ∀ {gs : GenState} {B : Around} {n : Nat} {r : Resume} {s : Shared}, gs.Goes (model Xg.prog Xg.w) B (AEnd Xg pins Q) (AItem Xg pins Q) n r s →
      gs.Goes (model Xg.prog Xg.w) B (fun n s₀ r s1 => ((r = .ok (.ret .none) ∨ r = .ok .next) ∧ (∃ σ H, Inv Xg pins σ H s1 ∧ Q (.bl true) H)) ∨ ∃ e, r = .error e ∧ False) (AItem Xg pins Q) n r s := fun h => h
  intro n
  induction n with
  | zero =>
    intro s ⟨σ, H, I⟩ ⟨gs, hgs, hg⟩
    refine codeAny_builtin F.entry_all_loop ?_
    rw [Around.under_plainId F.plain_all_loop _]
    show wpAny _ A.in1 (pyNext (.ref a) >>= _) _ _ s
    have ga := hgo _ (I.pin _ hpin).1
    refine wpAny_bind (next_genG (A := A.in1) hh I.nolimit hd ga hgs (goes hg) (fun v s₁ gs' hbare hv => ?_) (fun s₁ hp h' hk => ?_) fun e s₁ he => he.elim)
    · obtain ⟨b, rfl, ⟨σ1, H1, I1, hf⟩, ht⟩ := hv
      cases b with
      | true => exact False.elim (ht rfl s₁ rfl rfl I1.bare)
      | false =>
        refine wpAny_bind (wpAny_holding (wpAny_truthy_bool ?_))
        refine wpAny_bind (wpAny_letGo ?_)
        simp only [Bool.false_eq_true, if_false]
        refine wpAny_bind (wpAny_rule (wpAny_pure ?_))
        exact hend false σ1 H1 _ (inv_same I1 rfl rfl (allBare_setGen I1.bare hbare)) (hf rfl)
    · obtain ⟨σ1, H1, I1, hq⟩ := hp
      refine wpAny_bind (wpAny_rule (wpAny_pure ?_))
      have I2 := inv_same (s' := s₁.setGen g .finished) I1 rfl rfl (allBare_setGen I1.bare rfl)
      exact hend true σ1 H1 _ (I2.kept (t' := (s₁.setGen g .finished).toks) hk) hq
  | succ n ih =>
    intro s ⟨σ, H, I⟩ ⟨gs, hgs, hg⟩
    have hgl : g < s.gens.size := (Array.getElem?_eq_some_iff.mp hgs).1
    refine codeAny_builtin F.entry_all_loop ?_
    rw [Around.under_plainId F.plain_all_loop _]
    show wpAny _ A.in1 (pyNext (.ref a) >>= _) _ _ s
    have ga := hgo _ (I.pin _ hpin).1
    refine wpAny_bind (wpAny_gsz (n := g + 1) hgl (next_genG (A := A.in1) hh I.nolimit hd ga hgs (goes hg) (fun v s₁ gs' hbare hv => ?_) (fun s₁ hp h' hk => ?_) fun e s₁ he => he.elim))
    · intro hsz
      have hsz' : g < s₁.gens.size := by
        have q : (s₁.setGen g gs').gens.size = s₁.gens.size := setGen_size s₁ g gs'
        rw [q] at hsz
        exact hsz
      obtain ⟨b, rfl, ⟨σ1, H1, I1, hf⟩, ht⟩ := hv
      refine wpAny_bind (wpAny_holding (wpAny_truthy_bool ?_))
      refine wpAny_bind (wpAny_letGo ?_)
      have I2 := inv_same (s' := s₁.setGen g gs') I1 rfl rfl (allBare_setGen I1.bare hbare)
      cases b with
      | true =>
        simp only [if_true]
        refine wpAny_pure ⟨plainId_quiet F.plain_all_loop _, ih _ ⟨σ1, H1, I2⟩ ⟨gs', setGen_at hsz', ?_⟩⟩
        exact ht rfl _ rfl rfl (allBare_setGen I2.bare rfl)
      | false =>
        simp only [Bool.false_eq_true, if_false]
        refine wpAny_bind (wpAny_rule (wpAny_pure ?_))
        exact hend false σ1 H1 _ I2 (hf rfl)
    · intro _
      obtain ⟨σ1, H1, I1, hq⟩ := hp
      refine wpAny_bind (wpAny_rule (wpAny_pure ?_))
      have I2 := inv_same (s' := s₁.setGen g .finished) I1 rfl rfl (allBare_setGen I1.bare rfl)
      exact hend true σ1 H1 _ (I2.kept (t' := (s₁.setGen g .finished).toks) hk) hq
end
section
variable {X : Cx} {scope : Scope} {x : Str}
/-- the code of the generator's turns -/
abbrev loopC (elt iter : Expr) (x : Str) (px : Pos) (scope : Scope) (pos : Pos) (it : Addr) (env : Env) : Code := .compLoop (.GeneratorExp elt [⟨.Name x px, iter, [], 0⟩] scope pos) 0 (.ref it) .none env
abbrev startC (elt iter : Expr) (x : Str) (px : Pos) (scope : Scope) (pos : Pos) (it : Addr) (env : Env) : Code := .compStart (.GeneratorExp elt [⟨.Name x px, iter, [], 0⟩] scope pos) 0 (.ref it) .none env
theorem over_depth {A : Around} {elt iter : Expr} {px pos : Pos} {it : Addr} {env : Env} : (A.over (loopC elt iter x px scope pos it env) []).depth = A.depth + 1 := by
  first
    | rfl
    | simp [Around.over, loopC, Code.weight, Code.frames, Code.isFrame, Code.isGuard, Code.isCreation, Code.isCaller, frameCount]
theorem over_units {A : Around} {elt iter : Expr} {px pos : Pos} {it : Addr} {env : Env} : (A.over (loopC elt iter x px scope pos it env) []).units = A.units + 3 := by
  first
    | rfl
    | simp [Around.over, loopC, Code.cUnits, Code.frames, Code.isFrame, unitsOf]
theorem over_frames {A : Around} {elt iter : Expr} {px pos : Pos} {it : Addr} {env : Env} {l : List Env} (h : A.frames = some l) : (A.over (loopC elt iter x px scope pos it env) []).frames = some (env :: l) := by
  obtain ⟨hd, d, fr, gs, u⟩ := A
  simp only at h
  subst h
  first
    | rfl
    | simp [Around.over, loopC, Code.envs, Code.env?, Code.isFrame, envsOf, pushEnvs]

/-- the reading of a turn: what is wanted of the element's truth -/
def Turns (J : It) (k : Nat) (σ : L2.St) (te : TE) (Q : VK) (W : Nat → Nat → Hp → Prop) : Prop := ∀ i m H, W i m H →
  (J.stop i H ∧ Q (.bl true) H) ∨ (J.go i H ∧ ∃ N : Hp → Prop, (∀ H', N H' → ∃ m', m' < m ∧ W (i + 1) m' H') ∧
    ∀ y H', J.yld i H y H' → te (σ.set k (some y)) H' fun z H2 => ∃ b, z = .bl b ∧ if b = true then N H2 else Q (.bl false) H2)

theorem seg_turns {A : Around} {elt iter : Expr} {px pos : Pos} {it a : Addr} {go : Obj} {s4 : Shared} {H4 : Hp} {fp : List Addr} {tn : Nat → Heap → Prop} {J : It} {code : Value} {k : Nat} {te : TE} {Q : VK} {σ : L2.St} {W : Nat → Nat → Hp → Prop}
    (S : GenS2 X.env.scope X.N scope x) (hN : X.N.Nodup) (hk : X.N[k]? = some x)
    (T : Turn X.prog X.w X.K (.Name x px) J fp it tn)
    (hel : PE (genCx X (A.over (loopC elt iter x px scope pos it (genE X scope s4.heap.objs.size code)) []) s4 H4 fp scope code) elt te)
    (hf : ∀ b ∈ fp, b ≠ s4.heap.objs.size ∧ b ∉ frs X.stack ∧ (∀ y c, (genE X scope s4.heap.objs.size code).cells.lookup y = some c → c ≠ b) ∧ a ≠ b)
    (ht : Turns J k σ te Q W) :
    ∀ (n m i : Nat) (s₀ s : Shared) (o : Option V) (H : Hp), m + 1 ≤ n → W i m H → Inv (genCx X (A.over (loopC elt iter x px scope pos it (genE X scope s4.heap.objs.size code)) []) s4 H4 fp scope code) [(a, go)] (σ.set k o) H s → tn i s.heap → (∀ b ∈ fp, H b = none) →
      Seg (model X.prog X.w) A (AEnd (genCx X (A.over (loopC elt iter x px scope pos it (genE X scope s4.heap.objs.size code)) []) s4 H4 fp scope code) [(a, go)] Q)
        (AItem (genCx X (A.over (loopC elt iter x px scope pos it (genE X scope s4.heap.objs.size code)) []) s4 H4 fp scope code) [(a, go)] Q) n s₀
        (loopC elt iter x px scope pos it (genE X scope s4.heap.objs.size code)) ((model X.prog X.w).den (loopC elt iter x px scope pos it (genE X scope s4.heap.objs.size code))) [] s := by
  generalize hXg : genCx X (A.over (loopC elt iter x px scope pos it (genE X scope s4.heap.objs.size code)) []) s4 H4 fp scope code = Xg at hel ⊢
  have eprog : Xg.prog = X.prog := by rw [← hXg] <;> rfl
  have ew : Xg.w = X.w := by rw [← hXg] <;> rfl
  have eK : Xg.K = X.K := by rw [← hXg] <;> rfl
  have eN : Xg.N = X.N := by rw [← hXg] <;> rfl
  have eA : Xg.A = A.over (loopC elt iter x px scope pos it (genE X scope s4.heap.objs.size code)) [] := by rw [← hXg] <;> rfl
  have eenv : Xg.env = genE X scope s4.heap.objs.size code := by rw [← hXg] <;> rfl
  have ecalm : Xg.calm = true := by rw [← hXg] <;> rfl
  have eex : Xg.ex = fp := by rw [← hXg] <;> rfl
  have efs : Xg.fs = frs X.stack := by rw [← hXg] <;> rfl
  have epn : Xg.pn = [] := by rw [← hXg] <;> rfl
  have exe : Xg.xe = fun _ _ => False := by rw [← hXg] <;> rfl
  have hg : PG Xg (.Name x px) (gName k) := pg_name (by rw [eN]; exact hN) (by rw [eN]; exact hk) (.inl (by rw [eenv]; exact S.loc)) (.inr (by rw [eenv]; exact S.loc))
  have fpok : ∀ {H : Hp}, (∀ b ∈ fp, H b = none) → ∀ b ∈ fp, FpOk Xg [(a, go)] H b := fun {H} hn b hb => by
    obtain ⟨f1, f2, f3, f4⟩ := hf b hb
    refine ⟨hn b hb, by rw [eenv]; exact f1, by rw [efs]; exact f2, .inl (by rw [eex]; exact hb), by rw [eenv]; exact f3, fun p hp => ?_⟩
    rw [epn] at hp
    have hp : p = (a, go) := List.mem_singleton.mp hp
    rw [hp]
    exact f4
  intro n
  induction n with
  | zero => intro m i s₀ s o H hm; exact absurd hm (by omega)
  | succ n ih =>
    intro m i s₀ s o H hm w0 I st hn
    show Seg _ A _ _ _ s₀ _ ((compTurn (.GeneratorExp elt [⟨.Name x px, iter, [], 0⟩] scope pos) 0 (.ref it) .none (genE X scope s4.heap.objs.size code)).onRaise (leaving (genE X scope s4.heap.objs.size code))) [] s
    rw [compTurn_gen, Sem.onRaise_eq_wrap]
    refine seg_bind_wrap (wpAny_standAt ?_)
    rcases ht i m H w0 with ⟨stop, q⟩ | ⟨hgo, N, hN', step⟩
    · have hd := T.done Xg eprog ew eK ecalm i [(a, go)] s _ H (fun _ _ => False) I (fpok hn) st stop
      rw [eA] at hd
      refine seg_bind_wrap (wpAny_mono hd (fun r s1 ⟨hr, I1⟩ => ?_) fun _ _ z => z.elim)
      subst hr
      exact seg_end (.ok .next) (.inl ⟨.inr rfl, _, H, I1, q⟩)
    · have hi := T.item Xg eprog ew eK ecalm i [(a, go)] s _ H (fun _ _ => False) I (fpok hn) st hgo
      rw [eA] at hi
      refine seg_bind_wrap (wpAny_mono hi (fun r s1 ⟨u, hr, h1⟩ => ?_) fun _ _ z => z.elim)
      subst hr
      refine seg_bind_wrap (wpAny_mono h1 (fun _ s2 ⟨y, H2, I2, r2, y2, st2, hn2⟩ => ?_) fun _ _ z => z.elim)
      have I2' := I2.pinned (fpok hn2) (T.obj _ _ st2)
      have hgr : wpAny (model X.prog X.w) (A.over (loopC elt iter x px scope pos it (genE X scope s4.heap.objs.size code)) []) (assign (.Name x px) (genE X scope s4.heap.objs.size code) u)
          (fun _ s' => ∃ σ' H', Inv Xg ([(a, go)] ++ pinsAt fp s2.heap) σ' H' s' ∧ σ' = (σ.set k o).set k (some y) ∧ H' = H2) (fun _ _ => False) s2 := by
        rw [← eA, ← eenv, ← eprog, ← ew, ← exe]
        exact hg.run _ s2 _ H2 y u (fun σ' H' => σ' = (σ.set k o).set k (some y) ∧ H' = H2) I2' r2 ⟨rfl, rfl⟩
      refine seg_bind_wrap (wpAny_mono hgr (fun _ s3 h3 => ?_) fun e s' he => he.elim)
      obtain ⟨σ3, H3, I3, e3, e3'⟩ := h3
      subst e3 e3'
      rw [List.set_set] at I3
      refine seg_bind_wrap (m := (forIn ([] : List Expr) true _ : Sem Bool)) ?_
      simp only [List.forIn_nil]
      refine wpAny_pure ?_
      simp only [if_true]
      have hy : ∀ v, yieldOut (genE X scope s4.heap.objs.size code) v = yieldValue v := fun v => by
        have hco : (genE X scope s4.heap.objs.size code).scope.isCoroutine = false := S.co
        simp only [yieldOut, hco, Bool.false_eq_true, if_false]
      simp only [hy]
      rw [Sem.bind_eq_wrap', Sem.bind_eq_wrap', Sem.wrap_wrap, Sem.wrap_wrap]
      have her : wpAny (model X.prog X.w) (A.over (loopC elt iter x px scope pos it (genE X scope s4.heap.objs.size code)) []) (eval elt (genE X scope s4.heap.objs.size code))
          (EP Xg ([(a, go)] ++ pinsAt fp s2.heap) (σ.set k (some y)) fun z H2 => ∃ b, z = .bl b ∧ if b = true then N H2 else Q (.bl false) H2) (fun _ _ => False) s3 := by
        rw [← eA, ← eenv, ← eprog, ← ew, ← exe]
        exact hel.run _ s3 _ H3 _ I3 (step y H3 y2)
      refine seg_wrap (wpAny_mono her (fun v s4' h4 => ?_) fun e s' he => he.elim)
      obtain ⟨z, H4', I4, r4, b, ez, q4⟩ := h4
      subst ez
      obtain rfl : v = Value.bool b := r4
      have I4u : Inv Xg [(a, go)] (σ.set k (some y)) H4' s4' := I4.unpinned
      refine seg_at (seg_yield rfl rfl rfl ⟨b, rfl, ⟨_, H4', I4u, fun hb => ?_⟩, fun hb s'' e1 e2 e3 => ?_⟩)
      · rw [hb] at q4
        exact q4
      · rw [hb] at q4
        obtain ⟨m', hm', w'⟩ := hN' _ q4
        refine seg_again rfl (ih m' (i + 1) s'' s'' (some y) H4' (by omega) w' (inv_same I4u e1 e2 e3) ?_ fun b' hb' => ?_)
        · rw [e1]
          exact T.keep _ _ _ st2 fun b' hb' ob e => (I4.pin (b', ob) (List.mem_append_right _ (List.mem_append_right _ (mem_pinsAt hb' e)))).1
        · obtain ⟨ob, e, d⟩ := T.obj _ _ st2 b' hb'
          exact (I4.pin (b', ob) (List.mem_append_right _ (List.mem_append_right _ (mem_pinsAt hb' e)))).2.1
end
section
variable {X : Cx} {scope : Scope} {x : Str}
/-- the generator begins -/
theorem seg_begin {M : Model} {A : Around} {R : GenEnd} {Y : Protocol} {elt iter : Expr} {px pos : Pos} {it : Addr} {env : Env} {prog : Program} {w : World} (hM : M = model prog w) {n : Nat} {s₀ s : Shared}
    (hself : ∀ (A : Around) (Q : Value → Shared → Prop) (E : Value → Shared → Prop), Q (.ref it) s → wpAny (model prog w) A (pyIter (.ref it)) Q E s)
    (loop : Seg M A R Y n s₀ (loopC elt iter x px scope pos it env) (M.den (loopC elt iter x px scope pos it env)) [] s) :
    Seg M A R Y n s₀ (startC elt iter x px scope pos it env) (M.den (startC elt iter x px scope pos it env)) [] s := by
  subst hM
  show Seg _ A _ _ _ s₀ _ ((compStart (.GeneratorExp elt [⟨.Name x px, iter, [], 0⟩] scope pos) 0 (.ref it) .none env).onRaise (leaving env)) [] s
  unfold compStart
  rw [Sem.onRaise_eq_wrap]
  show Seg _ A _ _ _ s₀ _ ((ask >>= _).wrap _ _ _ _) [] s
  refine seg_bind_wrap (wpAny_askSetting ?_)
  split
  · exact seg_again rfl loop
  · first
      | exact seg_bind_wrap (wpAny_rule (seg_bind_wrap (wpAny_standAt (seg_bind_wrap (hself _ _ _ (seg_again rfl loop))))))
      | (refine seg_bind_wrap (wpAny_rule ?_); show Seg _ A _ _ _ s₀ _ ((standAt iter.pos >>= _).wrap _ _ _ _) [] s; exact seg_bind_wrap (wpAny_standAt (seg_bind_wrap (hself _ _ _ (seg_again rfl loop)))))
/-- all(elt for x in iter): W, what holds by the turn; the def's own table may have grown ahead of the first turn -/
def tAllG (P : Addr) (k : Nat) (wi : TI) (te : TE) : TE := fun σ H Q => wi σ H fun J H1 => GxR.TabG H1 P ∧ ∀ H2, GxR.Tabbed P H1 H2 → ∃ W : Nat → Nat → Hp → Prop, (∃ m, W 0 m H2) ∧ Turns J k σ te Q W
theorem pe_allG {c P : Addr} {elt iter : Expr} {px p pos gpos : Pos} {wi : TI} {te : TE} {kk k : Nat}
    (hr : Room (kk + 1) X.A) (hg : Gl X "all") (hm : X.mg "all" = none) (hb : bootBuiltins "all" = some (.builtin "all")) (TB : GxR.TabB X.base X.mg c P) (hcode : X.env.code = .ref c) (hN : X.N.Nodup) (hk : X.N[k]? = some x)
    (S : GenS2 X.env.scope X.N scope x) (hi : PI X (.Name x px) iter wi)
    (hel : ∀ (A : Around) (s : Shared) (H : Hp) (ex : List Addr) (code : Value), Room kk A → PE (genCx X A s H ex scope code) elt te)
    (hs : ∀ v, genFold iter X.env v = pure v := by intro _; rfl)
    (he : starEach [.GeneratorExp elt [⟨.Name x px, iter, [], 0⟩] scope gpos] X.env = (false, eval (.GeneratorExp elt [⟨.Name x px, iter, [], 0⟩] scope gpos) X.env) :: starEach [] X.env := by rfl) :
    PE X (.Call (.Name "all" p) [.GeneratorExp elt [⟨.Name x px, iter, [], 0⟩] scope gpos] [] pos) (tAllG P k wi te) := by
  refine ⟨fun pins s σ H Q I h => ?_⟩
  refine wpAny_Call_Name_kw (ld_blt I hg hm hb ?_)
  refine PyProof.Rows.callWith_builtin1 ?_ he (by rfl)
  rw [he]
  show wpAny _ _ (spliced ((false, eval (.GeneratorExp elt [⟨.Name x px, iter, [], 0⟩] scope gpos) X.env) :: backTo pos (starEach [] X.env))) _ _ s
  refine Calls.spliced_cons ?_
  refine wpAny_GeneratorExp_make S.co (closure_ok (S.has I.ok)) S.cell S.dot S.kind (by have := hr.dp; omega) ?_ hs
  refine thn (hi.run pins s σ H _ I h) fun xv s1 h1 => ?_
  refine thn h1 fun itv s2 h2 => ?_
  obtain ⟨it, fp, tn, J, H2, e2, I2, T, st2, f2, ⟨ps, hP, ht⟩, hW⟩ := h2
  subst e2
  refine ⟨I2.nolimit, ?_⟩
  have cont : ∀ (code : Value) (H3 : Hp) (s3 : Shared), Inv X pins σ H3 s3 → GxR.Tabbed P H2 H3 → tn 0 s3.heap →
      wpAny (model X.prog X.w) X.A (builtinsFor X.env.globals X.env.builtins) (fun bi s₄ =>
        ∀ h', h'.Ns s₄.heap.objs.size (fun y => if y = ".0" then some (.ref it) else none) → Heap.SameBut s₄.heap.objs.size (s₄.heap.push { cls := .type "frame", data := .dict #[] }) h' →
          (fun v s' => wpAny (model X.prog X.w) X.A (spliced (backTo pos (starEach [] X.env))) (fun vs => (fun vs s'' => wpAny (model X.prog X.w) X.A (call (.builtin "all") vs) (EP X pins σ Q) X.xe s'') (v :: vs)) X.xe s') (.ref h'.objs.size) { s₄ with
            gens := s₄.gens.push (.fresh (.compStart (.GeneratorExp elt [⟨.Name x px, iter, [], 0⟩] scope gpos) 0 (.ref it) .none (genEnv scope (cloFrom X.env.cells scope.names []) s₄.heap.objs.size code bi X.env))),
            toks := s₄.toks + 1 + 1 + 1,
            heap := h'.push { cls := .type "generator", data := .fields #[.int s₄.gens.size 0, .str "<genexpr>" (s₄.toks + 1), .str (X.env.qual ++ "<genexpr>") (s₄.toks + 1 + 1)] } }) X.xe s3 := by
    intro code H3 s3 I3 hTb st3
    obtain ⟨bm, ob, e1, e2, e3, e4, e5, e6, e7, e8⟩ := TB.bm
    refine wpAny_builtinsFor (m := X.mg) (by rw [I3.ok.glob]; exact I3.mod.glob.keeps I3.bk) e1 e2 (I3.bk _ _ e5) e6 e7 e8 ?_
    intro h' hns' hs'
    refine Calls.spliced_nil ?_
    have sz' : h'.objs.size = s3.heap.objs.size + 1 := by rw [hs'.1, Heap.size_push]
    have kp' : ∀ b o, s3.heap.get? b = some o → h'.get? b = some o := fun b o e => hs'.extBut b o (Nat.ne_of_lt (Heap.lt_size e)) (Heap.get?_push_of_some _ e)
    -- the generator's own object
    generalize hgo : ({ cls := .type "generator", data := .fields #[.int s3.gens.size 0, .str "<genexpr>" (s3.toks + 1), .str (X.env.qual ++ "<genexpr>") (s3.toks + 1 + 1)] } : Obj) = go
    have hgc : go.cls = .type "generator" := by rw [← hgo]
    have hgd : go.data = .fields #[.int s3.gens.size 0, .str "<genexpr>" (s3.toks + 1), .str (X.env.qual ++ "<genexpr>") (s3.toks + 1 + 1)] := by rw [← hgo]
    have hgs : go.slots = #[] := by rw [← hgo]
    have hgp : ∀ h : Heap, (h.push go).get? h.objs.size = some go := fun h => by
      rw [← hgo]
      exact Heap.get?_push_size _ rfl
    have hgen : ∀ h : Heap, h.get? h'.objs.size = some go → h.IsGen h'.objs.size s3.gens.size := fun h e => ⟨go, _, _, e, hgc, hgd, hgs⟩
    have kp6 : ∀ b o, s3.heap.get? b = some o → (h'.push go).get? b = some o := fun b o e => Heap.get?_push_of_some _ (kp' b o e)
    have hat : (h'.push go).get? h'.objs.size = some go := hgp h'
    have f3 : ∀ b ∈ fp, FpOk X pins H3 b ∧ b < s3.heap.objs.size := fun b hb => by
      obtain ⟨ob3, eb3, _⟩ := T.obj _ _ st3 b hb
      obtain ⟨q1, q2⟩ := f2 b hb
      have nP : b ≠ P := fun z => by
        rw [z, hP] at q1
        cases q1
      exact ⟨⟨by rw [hTb.2 b nP]; exact q1, q2⟩, Heap.lt_size eb3⟩
    -- `all` is called
    refine call_function_tree F.kind_all F.plain_all F.entry_all (F.args_all1 _) ?_
    unfold Builtin.«all»
    refine wpAny_bind (m := oneArg "all" _) (wpAny_pure ?_)
    refine wpAny_bind (wpAny_pyIter_gen (hgen _ hat) ?_)
    have hA3 : X.A.in1.in1.frames = some X.stack := I3.ok.frames
    have hroomA : Room kk (X.A.in1.in1.over (loopC elt iter x px scope gpos it (genE X scope s3.heap.objs.size code)) []) := by
      refine ⟨hr.hd, ?_, ?_⟩
      · rw [over_depth]
        have := hr.dp
        show X.A.depth + 1 + 3 * kk + 5 < _
        omega
      · rw [over_units]
        have := hr.un
        show X.A.units + 1 + 1 + 3 + 16 * kk + 200 < _
        omega
    obtain ⟨W, ⟨m0, w0⟩, hturns⟩ := hW H3 hTb
    have Ig : ∀ s6 : Shared, s6.heap = h'.push go → s6.os = s3.os → AllBare s6.gens →
        Inv (genCx X (X.A.in1.in1.over (loopC elt iter x px scope gpos it (genE X scope s3.heap.objs.size code)) []) s3 H3 fp scope code) [(h'.objs.size, go)] (σ.set k none) H3 s6 := fun s6 eh eo eb =>
      gen_start I3 S hN hk hr.hd (over_frames hA3) f3 eo eb (it := .ref it) (by rw [eh]; exact hns'.push _) (fun b o e => by rw [eh]; exact kp6 b o e) (by rw [sz']; exact Nat.lt_succ_self _) (by rw [eh]; exact hat) (fun v q => by rw [hgd] at q; cases q)
    refine wpAny_pure ⟨plainId_quiet F.plain_all_loop _, ?_⟩
    refine all_loop (Xg := genCx X (X.A.in1.in1.over (loopC elt iter x px scope gpos it (genE X scope s3.heap.objs.size code)) []) s3 H3 fp scope code) (pins := [(h'.objs.size, go)]) (Q := Q) (go := go) (g := s3.gens.size) (A := X.A)
      hr.hd (by have := hr.dp; omega) (List.mem_singleton.mpr rfl) hgen (fun b σ1 H1 s' J1 hq => ?_) (m0 + 1) _ ⟨_, H3, Ig _ rfl rfl (I3.bare.push rfl)⟩ ⟨_, Array.getElem?_push_size .., ?_⟩
    · have hch : ∀ b ∈ fp, (b ∈ X.ex ∨ X.s_0.heap.objs.size ≤ b) ∧ b ≠ X.env.locals ∧ (∀ x c, X.env.cells.lookup x = some c → c ≠ b) ∧ ∀ p ∈ X.pn ++ pins, p.1 ≠ b := fun b hb => by
        obtain ⟨⟨_, q1, q2, q3, q4, q5⟩, _⟩ := f3 b hb
        exact ⟨q3, q1, q4, q5⟩
      exact ⟨.bl b, H1, I3.call' (ch := fp) J1.os J1.base J1.hok J1.bare hch, rfl, hq⟩
    · refine ⟨rfl, seg_begin (prog := X.prog) (w := X.w) rfl (fun A' Q' E' hq => T.self A' 0 _ Q' E' (T.keep _ _ _ st3 fun b hb o e => kp6 b o e) hq) ?_⟩
      refine seg_turns (x := x) (a := h'.objs.size) (go := go) S hN hk T (hel _ s3 H3 fp code hroomA) (fun b hb => ?_) hturns (m0 + 1) m0 0 _ _ none H3 (Nat.le_refl _) w0 (Ig _ rfl rfl (allBare_setGen (I3.bare.push rfl) rfl)) (T.keep _ _ _ st3 fun b hb o e => kp6 b o e) fun b hb => (f3 b hb).1.1
      obtain ⟨⟨_, q1, q2, q3, q4, q5⟩, hlt⟩ := f3 b hb
      refine ⟨Nat.ne_of_lt hlt, fun hm => ?_, fun y c e => ?_, ?_⟩
      · rcases List.mem_cons.mp (I3.stkSub b hm) with z | z
        · exact q1 z
        · exact q2 z
      · have e' : (cloFrom X.env.cells scope.names []).lookup y = some c := e
        rcases cloFrom_mem (PySem.mem_of_lookup e') with hm | ⟨h1, h2⟩
        · cases hm
        · obtain ⟨c1, hc⟩ := S.has I3.ok _ h1 rfl
          have hc : X.env.cells.lookup y = some c1 := hc
          have e3 : c = c1 := by
            rw [h2, hc] <;> rfl
          rw [e3]
          exact q4 y c1 hc
      · rw [sz']
        exact Nat.ne_of_gt (Nat.lt_succ_of_lt hlt)
  have hPs : s2.heap.get? P = some { cls := .none, data := .fields ps } := I2.hok P _ hP
  have cd : PySem.W.CodeHd s2.heap c P := TB.code.keeps I2.bk
  have nfp : ∀ b ∈ fp, b ≠ P := fun b hb z => by
    have q1 := (f2 b hb).1
    rw [z, hP] at q1
    cases q1
  cases hf : codeAmong gpos ps.toList with
  | none =>
    refine wpAny_genexprCodeX hcode (cd.code hPs ht) (cd.tab hPs) hf fun c' h' tk hx hge hlt hco' _ htab' _ => ?_
    obtain ⟨o1, vs, f1, tf, fl, tg, inF, tx, tt, op, _, _, _, _, _, _, _, _, _, htr, _⟩ := hco'
    have I3 : Inv X pins σ (upd H2 P (.tbl (ps ++ #[rawInt gpos.line, rawInt gpos.col, .ref c']))) { s2 with heap := h', toks := tk } :=
      GxR.inv_tab (g' := s2.gens) (d' := s2.drawn) I2 hP (fun b o hb e => hx b o hb e) htab'.2 I2.bare
    exact cont _ _ _ I3 ⟨⟨_, upd_same, htr⟩, fun b hb => upd_ne hb⟩ (T.keep _ _ _ st2 fun b hb o e => hx b o (nfp b hb) e)
  | some cv =>
    refine wpAny_genexprCode_hit hcode (cd.code hPs ht) hf ?_
    exact cont cv H2 s2 I2 ⟨⟨ps, hP, ht⟩, fun _ _ => rfl⟩ st2
end
end GA

set_option Elab.async false
set_option linter.all false
set_option maxRecDepth 100000
set_option maxHeartbeats 4000000
/-! sorted(range(n), key=lambda i: t[i]), t a captured tuple of equal ints: the list of 0, 1, .. n - 1 -/
namespace GS
open PySem PySem.Spec PyProof.Rows L2

/-- a lambda's own scope: one parameter x, one captured name y -/
structure LamS1 (sc scope : Scope) (x y : Str) : Prop where
  kind : scope.kind = .function
  co : scope.isCoroutine = false
  gen : scope.isGenerator = false
  cell : ∀ z ∈ scope.names, z.2 ≠ .cell
  loc : scope.names.lookup x = some .local
  fre : scope.names.lookup y = some .free
  free : ∀ z ∈ scope.names, z.2 = .free → sc.names.lookup z.1 = some .cell ∨ sc.names.lookup z.1 = some .free
def lamSB1 (sc scope : Scope) (x y : Str) : Bool :=
  decide (scope.kind = .function) && !scope.isCoroutine && !scope.isGenerator && decide (scope.names.lookup x = some .local) && decide (scope.names.lookup y = some .free) &&
    scope.names.all fun z => !decide (z.2 = .cell) && (!decide (z.2 = .free) || decide (sc.names.lookup z.1 = some .cell) || decide (sc.names.lookup z.1 = some .free))
theorem lamS1_by {sc scope : Scope} {x y : Str} (h : lamSB1 sc scope x y = true) : LamS1 sc scope x y := by
  unfold lamSB1 at h
  simp only [Bool.and_eq_true, Bool.or_eq_true, Bool.not_eq_true', decide_eq_true_eq, decide_eq_false_iff_not, List.all_eq_true] at h
  obtain ⟨⟨⟨⟨⟨h1, h2⟩, h3⟩, h4⟩, h5⟩, h6⟩ := h
  refine ⟨h1, h2, h3, fun z hz => (h6 z hz).1, h4, h5, fun z hz e => ?_⟩
  rcases (h6 z hz).2 with (q | q) | q
  · exact absurd e q
  · exact .inl q
  · exact .inr q
theorem LamS1.has {X : Cx} {scope : Scope} {x y : Str} (L : LamS1 X.env.scope scope x y) (ok : X.Ok) : ∀ z ∈ scope.names, z.2 = .free → ∃ c, X.env.cells.lookup z.1 = some c := fun z hz e => by
  rcases L.free z hz e with k | k
  · exact ok.has _ (.inl k)
  · exact ok.has _ (.inr k)

section
variable {prog : Program} {w : World} {A : Around} {s : Shared}
/-- the key's call: lambda i: t[i] -/
theorem key_call {f c' cl al : Addr} {q : Str} {params : Arguments} {scope : Scope} {clos : List (Str × Addr)} {pm ctv : Value} {x y : Str} {p1 p2 p3 : Pos} {its : List Value} {i : Nat} {t tc : Tok} {c : Int} {sc : Scope} (L : LamS1 sc scope x y)
    (hd : A.depth < recursionLimit) (hlim : s.heap.NoLimit) (hf : s.heap.get? f = some (PySem.W.kla_obj "<lambda>" q params (.Subscript (.Name y p1) (.Name x p2) p3) scope clos pm c' ctv))
    (hcr : s.heap.CodeRec (.ref c') q) (hbind : ∀ v, bindArgs (PySem.W.kla_fn "<lambda>" q params (.Subscript (.Name y p1) (.Name x p2) p3) scope clos pm (.ref c') ctv) ⟨[v], []⟩ = pure [(x, v)])
    (hcl : clos.lookup y = some cl) (hcell : s.heap.IsCell cl (some (.ref al))) (hal : IsTup s.heap al its.toArray) (hlen : its.length < 2 ^ 62) (hi : its[i]? = some (.int c tc))
    (hdx : (x == ("__debug__" : Str)) = false) (hdy : (y == ("__debug__" : Str)) = false) (hcy : (y == ("__classdict__" : Str)) = false) :
    wpAny (model prog w) A (call (.ref f) [.int (i : Nat) t]) (PySem.W.KeyPure (.int c) s) (fun _ _ => False) s := by
  refine wpAny_call ?_
  refine PySem.W.kla_callFunE hd hf rfl L.co L.gen rfl hcr ?_
  · rw [hbind]
    refine wpAny_pure (wpAny_newFunctionEnv L.cell (fun z hz => ?_) (fun h₁ hns hsb => ⟨hlim.fresh _ hsb, ?_⟩) L.kind)
    · rw [List.mem_singleton.mp hz]
      exact L.loc
    show codeAny _ _ (.expr _ (PySem.W.envX q scope s.heap.objs.size f (.ref c') clos)) _ _
    have kp : ∀ b o, s.heap.get? b = some o → h₁.get? b = some o := fun b o e => hsb.extBut b o (Nat.ne_of_lt (Heap.lt_size e)) (Heap.get?_push_of_some _ e)
    have hcell' : h₁.IsCell cl (some (.ref al)) := by
      obtain ⟨o, ho, hdd⟩ := hcell
      exact ⟨o, kp _ _ ho, hdd⟩
    have hal' : IsTup h₁ al its.toArray := by
      obtain ⟨o, ho, r⟩ := hal
      exact ⟨o, kp _ _ ho, r⟩
    refine PySem.W.kla_codeExpr ?_
    refine Subscript_ ?_
    refine wpAny_Name (wpAny_loadName_free L.kind L.fre hcl hcell' ?_ hcy) hdy
    refine wpAny_Name (wpAny_loadName_local (v := Value.int (i : Nat) t) (m := fun z => ([(x, Value.int (i : Nat) t)] : List (Str × Value)).reverse.lookup z) L.kind L.loc hns (by simp) ?_) hdx
    have hil : i < its.length := (List.getElem?_eq_some_iff.mp hi).1
    refine subscriptTail_builtinR (x := .int c tc) (Q := fun r s' => PySem.W.KeyPure (.int c) s r s') hal'.typeIs slot_tuple_getitem.lookup ?_ rfl
    refine getItem_tuple (j := i) hal' (by omega) (by omega) ?_ (by simpa using hi) ⟨rfl, h₁, _, rfl, kp, .int c tc⟩
    rw [List.size_toArray]
    have h0 : ¬ ((i : Nat) : Int) < 0 := by omega
    simp [seqIndex?, h0, hil]
end

/-- the same key for all: the sort leaves the order -/
theorem sort_const {β : Type} (c : Int) (bs : List β) : bs.mergeSort (PySem.W.dataLe false fun _ : β => PyData.int c) = bs := by
  have hle : ∀ a b : β, PySem.W.dataLe false (fun _ : β => PyData.int c) a b = true := fun a b => by
    first
      | (unfold PySem.W.dataLe PySem.W.sortLe; simp [PyProof.Rows.listOrd]; done)
      | (unfold PySem.W.dataLe PySem.W.sortLe; simp)
      | simp [PySem.W.dataLe, PySem.W.sortLe]
    all_goals exact PyProof.Rows.lex_irrefl _
  exact List.mergeSort_of_pairwise (List.pairwise_of_forall fun a b => hle a b)

theorem alike_consts (c : Int) {β : Type} (bs : List β) : PySem.W.AllAlike (bs.map fun _ : β => PyData.int c) := fun d hd d' hd' => by
  obtain ⟨_, _, rfl⟩ := List.mem_map.mp hd
  obtain ⟨_, _, rfl⟩ := List.mem_map.mp hd'
  rfl
theorem sortable_consts (c : Int) {β : Type} (bs : List β) : PySem.W.Sortable (bs.map fun _ : β => PyData.int c) := .inr fun d hd => by
  obtain ⟨_, _, rfl⟩ := List.mem_map.mp hd
  exact ⟨(nomatch ·), fun xs h => nomatch h⟩

theorem vals_each : ∀ {vs : List Value} {ns : List Nat}, PySem.W.EachIs (fun (v : Value) (i : Nat) => ∃ t, v = .int (i : Nat) t) vs ns → Vals (ns.map fun i => V.int (i : Nat)) vs
  | _, _, .nil => .nil
  | _, _, .cons h t => .cons h (vals_each t)
theorem each_range {vs : List Value} {n : Nat} (hl : vs.length = n) (h : ∀ j v, vs[j]? = some v → ∃ t, v = Value.int ((j : Nat) : Int) t) : PySem.W.EachIs (fun (v : Value) (i : Nat) => ∃ t, v = .int (i : Nat) t) vs (List.range n) := by
  have key : ∀ (vs : List Value) (k : Nat), (∀ j v, vs[j]? = some v → ∃ t, v = Value.int ((k + j : Nat) : Int) t) → PySem.W.EachIs (fun (v : Value) (i : Nat) => ∃ t, v = .int (i : Nat) t) vs (List.range' k vs.length) := by
    intro vs
    induction vs with
    | nil => intro k _; exact .nil
    | cons v vs ih =>
      intro k hk
      rw [List.length_cons, List.range'_succ]
      refine .cons (hk 0 v rfl) (ih (k + 1) fun j u hj => ?_)
      have h1 := hk (j + 1) u (by simpa using hj)
      have e : k + (j + 1) = k + 1 + j := by omega
      rw [e] at h1
      exact h1
  have h2 := key vs 0 fun j v hj => by
    rw [Nat.zero_add]
    exact h j v hj
  rw [hl, ← List.range_eq_range'] at h2
  exact h2
section
variable {prog : Program} {w : World} {A : Around} {E : Value → Shared → Prop} {s : Shared}
/-- sorted(range(n), key=f), f's answer the same for all -/
theorem sorted_range_key {r f : Addr} {n : Nat} {c : Int} {t u v : Tok} {Q : Value → Shared → Prop} (hh : A.handled = none) (hr : IsRange s.heap r 0 (n : Nat) 1 t u v) (hn : n ≤ 1000) (hu : A.units + 10 < cLine)
    (turn : ∀ (i : Nat) (tk0 : Tok), i < n → ∀ (h : Heap) (tk : Nat), (∀ b o, s.heap.get? b = some o → h.get? b = some o) →
      wpAny (model prog w) A.in1.in1 (call (.ref f) [.int (i : Nat) tk0]) (PySem.W.KeyPure (.int c) { s with heap := h, toks := tk }) (fun _ _ => False) { s with heap := h, toks := tk })
    (h : ∀ (h1 : Heap) (a : Addr) (out : List Value) (c' : Nat) (h' : Heap) (tk : Nat), (∀ b o, s.heap.get? b = some o → h1.get? b = some o) → (∀ b o, h1.get? b = some o → h'.get? b = some o) → h1.objs.size ≤ a → h'.get? a = some (seqObj "list" (List.toArray out) c') → Vals ((List.range n).map fun i => V.int (i : Nat)) out → Q (.ref a) { s with heap := h', toks := tk }) :
    wpAny (model prog w) A (call (.builtin "sorted") [.ref r] [(Str.ofString "key", .ref f)]) Q E s := by
  refine call_function_entry_kw kind_sorted plain_sorted entry_sorted (ksk_s1 _ _) ?_
  unfold Builtin.«sorted»
  refine wpAny_bind (m := checkCount "sorted" 1 1 _) (wpAny_pure ?_)
  refine wpAny_bind (collect_range (n := n) (A := A.in1) hh hr (small_one (by omega) (by omega) (by omega) (by omega)) ?_ (by omega) fun h1 tk1 acc hk1 hacc => ?_)
  · rw [rangeSize_one]
    split <;> omega
  have hal : acc.toList.length = n := by
    rw [Array.length_toList]
    exact hacc.1
  have hL : acc.toList.length ≤ sizeLine := by
    rw [hal, sizeLine_eq]
    omega
  refine wpAny_bind (wpAny_newList ?_ hL)
  have hR : PySem.W.EachIs (fun (v : Value) (i : Nat) => ∃ t, v = .int (i : Nat) t) acc.toList (List.range n) := by
    refine each_range hal fun j v hv => ?_
    rw [Array.getElem?_toList] at hv
    obtain ⟨t0, ev⟩ := hacc.2 j v hv
    refine ⟨t0, ?_⟩
    rw [ev]
    have e0 : (0 : Int) + (j : Nat) * 1 = (j : Nat) := by omega
    rw [e0]
  refine wpAny_bind (wpAny_holding (wpAny_call_entry_kw slot_list_sort ⟨_, Heap.get?_push_size _ rfl, rfl⟩ entry_list_sort ?body (ksk_l1 _ _)))
  case body =>
    show wpAny (model prog w) A.in1.in1 (Builtin.«list.sort» ⟨[.ref h1.objs.size], [(Str.ofString "key", .ref f)]⟩) _ _ { s with heap := h1.push (seqObj "list" acc.toList.toArray 0), toks := tk1 }
    rw [ksk_t1]
    have up : ∀ {g : Heap}, PySem.W.KeepsBut h1.objs.size (h1.push (seqObj "list" acc.toList.toArray 0)) g → ∀ b o, s.heap.get? b = some o → g.get? b = some o := fun {g} kp b o q =>
      kp b o (Nat.ne_of_lt (Heap.lt_size (hk1 b o q))) (Heap.get?_push_of_some _ (hk1 b o q))
    have body : wpAny (model prog w) A.in1.in1 (ksk_tree h1.objs.size (.ref f) false) (fun fl s' => fl = .done (.ret .none) ∧ Q (.ref h1.objs.size) s') (fun _ _ => False) { s with heap := h1.push (seqObj "list" acc.toList.toArray 0), toks := tk1 } := by
      refine PySem.W.keyH_tree (kz := (List.range n).map fun _ => PyData.int c) (s := { s with heap := h1.push (seqObj "list" acc.toList.toArray 0), toks := tk1 }) (a := h1.objs.size) (vs := acc.toList) (Heap.get?_push_size _ rfl) (by rw [List.length_map, List.length_range, hal]) hL
        (alike_consts c _) (sortable_consts c _) (fun d hd => ?_) (fun i v k hv hk h2 tk2 kp => ?_) fun h' tk out c' kp hD ko => ⟨rfl, ?_⟩
      · obtain ⟨_, _, rfl⟩ := List.mem_map.mp hd
        have e : (PyData.int c).depth ≤ 1 := by
          first
            | decide
            | (simp [PyData.depth]; done)
        show A.units + 1 + 1 + _ < _
        omega
      · rw [List.getElem?_map] at hk
        cases hq : (List.range n)[i]? with
        | none =>
          rw [hq] at hk
          cases hk
        | some j =>
          rw [hq] at hk
          have ek : k = PyData.int c := (Option.some.inj hk).symm
          subst ek
          have hin : i < n := by
            have := (List.getElem?_eq_some_iff.mp hv).1
            omega
          rw [Array.getElem?_toList] at hv
          obtain ⟨t0, ev⟩ := hacc.2 i v hv
          rw [ev]
          have e0 : (0 : Int) + (i : Nat) * 1 = (i : Nat) := by omega
          rw [e0]
          exact turn i t0 hin h2 tk2 (up kp)
      · have ho := PySem.W.keyedOut_each (R := fun (v : Value) (i : Nat) => ∃ t, v = .int (i : Nat) t) (bs := List.range n) (fun _ => PyData.int c) ko hR
        rw [sort_const] at ho
        refine h h1 h1.objs.size out c' h' tk hk1 (fun b o q => kp b o (Nat.ne_of_lt (Heap.lt_size q)) (Heap.get?_push_of_some _ q)) (Nat.le_refl _) hD (vals_each ho)
    refine wpAny_mono body (fun fl s' hf => ?_) fun _ _ z => z.elim
    obtain ⟨rfl, hq⟩ := hf
    exact ⟨_, rfl, wpAny_pure ⟨_, rfl, hq⟩⟩
end

/-- all but the object at P stays -/
def Far (P : Addr) (H H' : Hp) : Prop := ∀ b o, b ≠ P → H b = some o → H' b = some o
section
variable {X : Cx} {pins : List (Addr × Obj)} {σ : L2.St} {H : Hp} {s : Shared}
/-- a lambda is made: what stands apart from the maker's table is kept -/
theorem lam3 {c P : Addr} {params : Arguments} {body : Expr} {scope : Scope} {pos : Pos} {E : Value → Shared → Prop} {Q : Value → Shared → Prop} (I : Inv X pins σ H s) (TB : LamX.TabB X.base X.mg c P) (hcode : X.env.code = .ref c)
    (hT : LamX.TabS H P (X.env.qual ++ "<lambda>")) (hdef : defaultsOf params X.env = ([], [])) (hfree : ∀ y ∈ scope.names, y.2 = .free → ∃ c, X.env.cells.lookup y.1 = some c)
    (h : ∀ (f c' : Addr) (pm ctv : Value) (H1 : Hp) (s' : Shared), Inv X pins σ H1 s' → Far P H H1 → LamX.TabS H1 P (X.env.qual ++ "<lambda>") →
      s'.heap.get? f = some (PySem.W.kla_obj "<lambda>" (X.env.qual ++ "<lambda>") params body scope (cloFrom X.env.cells scope.names []) pm c' ctv) → H1 c' = some (LamX.CodeO c' (X.env.qual ++ "<lambda>")) → Q (.ref f) s') :
    wpAny (model X.prog X.w) X.A (eval (.Lambda params body scope pos) X.env) Q E s := by
  obtain ⟨ps, hP, ht, ha⟩ := hT
  have bP : s.heap.BuiltinsAt X.mg P := TB.bm.keeps I.bk
  have hP' : s.heap.get? P = some { cls := .none, data := .fields ps } := I.hok P _ hP
  refine PySem.W.kla_eval hdef ?_
  cases hc : codeAmong pos ps.toList with
  | some cv =>
    obtain ⟨c', e, hco⟩ := ha pos cv hc
    subst e
    refine PySem.W.kla_makeFunctionHit (mg := X.mg) (c := c) (P := P) (ps := ps) (closure_ok hfree) I.ok.glob (I.mod.glob.keeps I.bk) hcode (TB.code.keeps I.bk) hP' ht hc bP fun ctv h' tk hx hsz => ?_
    exact h h'.objs.size c' _ ctv H _ (I.kept (t' := tk) fun b o e => Heap.get?_push_of_some _ (hx b o e)) (fun b o _ e => e) ⟨ps, hP, ht, ha⟩ (Heap.get?_push_size _ rfl) hco
  | none =>
    refine PySem.W.kla_makeFunction (mg := X.mg) (c := c) (P := P) (ps := ps) (closure_ok hfree) I.ok.glob (I.mod.glob.keeps I.bk) hcode (TB.code.keeps I.bk) hP' ht hc TB.gP bP fun c' ctv h' tk hx hge hlt hrec htb => ?_
    obtain ⟨c2, oc, vs, t, e2, hoc, hd, hv⟩ := hrec
    cases e2
    have nC : H c' = none := I.hok.fresh hge
    have far : Far P H (upd (upd H P (.tbl (ps ++ #[rawInt pos.line, rawInt pos.col, .ref c']))) c' (LamX.CodeO c' (X.env.qual ++ "<lambda>"))) := fun b o n e => by
      rw [upd_ne (ne_of_none e nC), upd_ne n]
      exact e
    have eL : (ps ++ #[rawInt pos.line, rawInt pos.col, .ref c']).toList = ps.toList ++ [rawInt pos.line, rawInt pos.col, .ref c'] := by simp
    refine h h'.objs.size c' _ ctv _ _ (LamX.inv_table (t' := tk) (more := #[rawInt pos.line, rawInt pos.col, .ref c'])
      (h' := h'.push (PySem.W.kla_obj "<lambda>" (X.env.qual ++ "<lambda>") params body scope (cloFrom X.env.cells scope.names []) ((X.mg "__name__").getD .none) c' ctv)) I hP
      (fun b o hb e => Heap.get?_push_of_some _ (hx b o hb e)) (Heap.get?_push_of_some _ htb) hge ⟨oc, vs, t, Heap.get?_push_of_some _ hoc, hd, hv⟩) far ?_ (Heap.get?_push_size _ rfl) upd_same
    refine ⟨_, by rw [upd_ne (ne_of_none hP nC), upd_same], by rw [eL]; exact PySem.TriplesOk_snoc _ _ _ _ ht, fun p' cv hcv => ?_⟩
    rw [eL] at hcv
    rcases LamX.among_app _ ht hcv with z | z
    · obtain ⟨c0, e1, e2⟩ := ha p' cv z
      refine ⟨c0, e1, far _ _ (fun q => ?_) e2⟩
      rw [q, hP] at e2
      exact LamX.codeO_ne ps (Option.some.inj e2).symm
    · exact ⟨c', z, upd_same⟩
end

section
variable {X : Cx}
theorem sqT_ext {K : PySem.W.Frag} {H H' : Hp} {a : Addr} {xs : List V} (h : SqT K H a xs) (e : LamX.ExtN H H') : SqT K H' a xs := by
  rcases h with (h | ⟨o, h⟩) | h
  · exact .inl (.inl (e _ _ h fun ps z => by cases z))
  · exact .inl (.inr ⟨o, e _ _ h fun ps z => by cases z⟩)
  · exact .inr h
theorem sqL_ext {K : PySem.W.Frag} {H H' : Hp} {a : Addr} {xs : List V} (h : SqL K H a xs) (e : LamX.ExtN H H') : SqL K H' a xs := by
  rcases h with (h | ⟨o, h⟩) | h
  · exact .inl (.inl (e _ _ h fun ps z => by cases z))
  · exact .inl (.inr ⟨o, e _ _ h fun ps z => by cases z⟩)
  · exact .inr h
theorem far_extN {P : Addr} {H H' : Hp} {ps : Array Value} (h : H P = some (.tbl ps)) (e : Far P H H') : LamX.ExtN H H' := fun b o hb n => e b o (fun z => n ps (by rw [z, h] at hb; exact (Option.some.inj hb).symm)) hb
/-- sorted(range(a), key=lambda x: y[x]), y (in slot iy) a tuple of n equal ints, n the value of a; P: the table of the def's own code, q: the lambda's qualified name -/
def tSortL (P : Addr) (qn : Str) (K : PySem.W.Frag) (iy : Nat) (ta : TE) : TE := fun σ H Q => ta σ H fun b H1 => LamX.TabS H1 P qn ∧ ∃ (al : Addr) (n : Nat) (c : Int), b = .int (n : Nat) ∧ σ[iy]? = some (some (.ref al)) ∧
  SqT K H1 al (List.replicate n (V.int c)) ∧ n ≤ 1000 ∧ ∀ H2, Far P H1 H2 → LamX.TabS H2 P qn → ∀ p, H2 p = none → Q (.ref p) (upd H2 p (.lst ((List.range n).map fun i => V.int (i : Nat))))
theorem pe_sortL {c P : Addr} {x y : Str} {ea : Expr} {ta : TE} {params : Arguments} {scope : Scope} {p pos lpos kpos p1 p2 p3 pr posr : Pos} {k iy : Nat} (hg : Gl X "sorted") (hm : X.mg "sorted" = none) (hv : bootBuiltins "sorted" = some (.builtin "sorted"))
    (hgr : Gl X "range") (hmr : X.mg "range" = none) (ha : PE X ea ta)
    (hr : Room k X.A) (hc : X.calm = true) (TB : LamX.TabB X.base X.mg c P) (hcode : X.env.code = .ref c) (L : LamS1 X.env.scope scope x y) (hdef : defaultsOf params X.env = ([], []))
    (hbind : ∀ (q : Str) (cl : List (Str × Addr)) (pm cv ctv v : Value), bindArgs (PySem.W.kla_fn "<lambda>" q params (.Subscript (.Name y p1) (.Name x p2) p3) scope cl pm cv ctv) ⟨[v], []⟩ = pure [(x, v)])
    (hNy : X.N[iy]? = some y) (hy : X.env.scope.names.lookup y = some .cell) (hdx : (x == ("__debug__" : Str)) = false := by decide) (hdy : (y == ("__debug__" : Str)) = false := by decide) (hcy : (y == ("__classdict__" : Str)) = false := by decide)
    (na : starEach [ea] X.env = (false, eval ea X.env) :: starEach [] X.env := by rfl)
    (hs : backTo pos (starEach [.Call (.Name "range" pr) [ea] [] posr] X.env) = (false, eval (.Call (.Name "range" pr) [ea] [] posr) X.env) :: backTo pos (starEach [] X.env) := by rfl) (hpl : (backTo pos (starEach [.Call (.Name "range" pr) [ea] [] posr] X.env)).any (·.1) = false := by rfl)
    (hall : (backToKw pos (keywordEach [⟨some "key", .Lambda params (.Subscript (.Name y p1) (.Name x p2) p3) scope lpos, kpos⟩] X.env)).all (·.1.isSome) = true := by rfl) (hnone : (backToKw pos (keywordEach [⟨some "key", .Lambda params (.Subscript (.Name y p1) (.Name x p2) p3) scope lpos, kpos⟩] X.env)).any (·.1.isNone) = false := by rfl)
    (hks : (backToKw pos (keywordEach [⟨some "key", .Lambda params (.Subscript (.Name y p1) (.Name x p2) p3) scope lpos, kpos⟩] X.env)).filterMap (·.1) = [Str.ofString "key"] := by rfl) :
    PE X (.Call (.Name "sorted" p) [.Call (.Name "range" pr) [ea] [] posr] [⟨some "key", .Lambda params (.Subscript (.Name y p1) (.Name x p2) p3) scope lpos, kpos⟩] pos) (tSortL P (X.env.qual ++ "<lambda>") X.K iy ta) := by
  refine ⟨fun pins s σ H Q I h => ?_⟩
  refine wpAny_Call_Name_kw (ld_blt I hg hm hv ?_)
  refine PyProof.Rows.callWith_kw ?_ hs hpl hall hnone
  rw [hks, hs]
  refine Calls.spliced_cons ?_
  refine Call_ (ld_blt I hgr hmr boot_range (PyProof.Rows.callWith_type1 (one_arg ha I h (fun v0 s1 b H1 I1 r1 hq => ?_) na) na))
  obtain ⟨hT, al, n, cc, eb, hσ, hal, hn, q⟩ := hq
  subst eb
  obtain ⟨t, rfl⟩ := r1
  refine call_range_1 ?_
  generalize hro : ({ cls := .type "range", data := .fields #[.int 0 s1.toks, .int (n : Nat) t, .int 1 (s1.toks + 1)] } : Obj) = ro
  have I1k := I1.kept (t' := s1.toks + 1 + 1) (h' := s1.heap.push ro) fun b o e => Heap.get?_push_of_some _ e
  have hat : (s1.heap.push ro).get? s1.heap.objs.size = some ro := by
    rw [← hro]
    exact Heap.get?_push_size _ rfl
  have hfp : ∀ b ∈ [s1.heap.objs.size], FpOk X pins H1 b := fun b hb => by
    rw [List.mem_singleton.mp hb]
    exact I1.fpOk (Nat.le_refl _) (I1.hok.fresh (Nat.le_refl _))
  have I1p := I1k.pinned (fp := [s1.heap.objs.size]) hfp (fun b hb => by
    rw [List.mem_singleton.mp hb]
    refine ⟨ro, hat, fun v z => ?_⟩
    rw [← hro] at z
    cases z)
  refine Calls.spliced_nil ?_
  show wpAny _ _ (evalAll ((do let v ← eval (.Lambda params (.Subscript (.Name y p1) (.Name x p2) p3) scope lpos) X.env; standAt pos; pure v) :: (backToKw pos (keywordEach [] X.env)).map (·.2))) _ _ _
  refine wpAny_evalAll_cons (wpAny_bind (lam3 I1p TB hcode hT hdef (L.has I1.ok) fun f c' pm ctv H2 s2 I2p eN T2 hf hco => wpAny_bind (wpAny_standAt (wpAny_pure ?_))))
  refine wpAny_evalAll_nil ?_
  have hat2 : s2.heap.get? s1.heap.objs.size = some ro := (I2p.pin (s1.heap.objs.size, ro) (List.mem_append_right _ (List.mem_append_right _ (mem_pinsAt (List.mem_singleton.mpr rfl) hat)))).1
  have I2 : Inv X pins σ H2 s2 := I2p.unpinned
  obtain ⟨⟨oc, vs, tq, hoc, hdc, hvc⟩, _, _⟩ := I2.hok c' _ hco
  obtain ⟨its, rv, htup, _⟩ := I2.tuple (sqT_ext hal (far_extN hT.choose_spec.1 eN))
  have hits : its.length = n := by
    rw [← rv.length, List.length_replicate]
  obtain ⟨m, hn', hl⟩ := I2.loc
  obtain ⟨u0, ru, look⟩ := hl iy y (.ref al) hNy hσ (.inr (.inl hy))
  obtain rfl : u0 = Value.ref al := ru
  obtain ⟨cl, hcl0, hcell⟩ : ∃ cl, X.env.cells.lookup y = some cl ∧ s2.heap.IsCell cl (some (.ref al)) := by
    rcases look with ⟨k2, _⟩ | ⟨_, c3, e', z⟩
    · have k2 : X.env.scope.names.lookup y = some .local := k2
      rw [hy] at k2
      cases k2
    · exact ⟨c3, e', z⟩
  have hcl : (cloFrom X.env.cells scope.names []).lookup y = some cl := by
    have hmem : (y, NameKind.free) ∈ scope.names := PySem.mem_of_lookup L.fre
    obtain ⟨c2, h2⟩ := mem_lookup (cloFrom_has (cells := X.env.cells) (acc := []) hmem)
    have e2 : c2 = cl := by
      rcases cloFrom_mem (PySem.mem_of_lookup h2) with hm | ⟨_, h4⟩
      · cases hm
      · rw [h4, hcl0] <;> rfl
    rw [← e2]
    exact h2
  show wpAny _ _ (call (.builtin "sorted") [.ref s1.heap.objs.size] [(Str.ofString "key", .ref f)]) _ _ s2
  refine sorted_range_key (n := n) (c := cc) (t := s1.toks) (u := t) (v := s1.toks + 1) (I2.ok.hd hc) (show IsRange s2.heap s1.heap.objs.size 0 (n : Nat) 1 s1.toks t (s1.toks + 1) from by rw [← hro] at hat2; exact hat2) hn (by have := hr.un; omega) (fun i tk0 hi h3 tk3 kp3 => ?_) fun h1 a out c2 h' tk hk1 hk2 hle hD hv => ?_
  · obtain ⟨w0, hw0, rw0⟩ := rv.get (i := i) (x := V.int cc) (by rw [List.getElem?_replicate, if_pos hi])
    obtain ⟨tw, rfl⟩ := rw0
    refine key_call (its := its) (i := i) (tc := tw) (al := al) (cl := cl) L ?_ (I2.nolimit.keeps kp3) (kp3 _ _ hf) ⟨c', oc, vs, tq, rfl, kp3 _ _ hoc, hdc, hvc⟩ (hbind _ _ _ _ _) hcl ?_ ?_ (by omega) hw0 hdx hdy hcy
    · have := hr.dp
      show X.A.depth < _
      omega
    · obtain ⟨o, ho, hd⟩ := hcell
      exact ⟨o, kp3 _ _ ho, hd⟩
    · obtain ⟨o, ho, hr⟩ := htup
      exact ⟨o, kp3 _ _ ho, hr⟩
  · have I3 := I2.kept (t' := tk) hk1
    have hlen : ((List.range n).map fun i => V.int (i : Nat)).length ≤ sizeLine := by
      rw [List.length_map, List.length_range, sizeLine_eq]
      omega
    have I4 := I3.laid (a := a) (o := .lst ((List.range n).map fun i => V.int (i : Nat))) (t' := tk) hk2 hle ⟨hlen, out, c2, hv, hD⟩
    exact ⟨.ref a, _, I4, rfl, q H2 eN T2 a (I3.hok.fresh hle)⟩
end
end GS

set_option Elab.async false
set_option linter.all false
set_option maxRecDepth 100000
set_option maxHeartbeats 4000000
/-! tuple * 0, tuple * 1; enumerate(tuple); len(set(tuple of tuples of ints)) -/
namespace GO
open PySem PySem.Spec PyProof.Rows L2
open AutoSeq1 (wpAny_loadPart')

theorem tuple_mul1 (l : Addr) (items : Array Value) (n : Nat) (dd : Option Addr) (sl : Array (Option Value)) (x : Int) (u : Tok) (c0 : (decide (x < -(2 ^ 63)) || decide (x ≥ 2 ^ 63)) = false) (c1 : (items.isEmpty || x == 1) = true) :
    Meets (Builtin.«tuple.__mul__» ⟨[.ref l, .int x u], []⟩) (fun _ R s => s.heap.get? l = some { cls := .type "tuple", dict := dd, data := .seq items n, slots := sl } ∧
      R (.ok (.ret (Value.ref l))) s) :=
  .of_wp fun prog w A R s h => by
    obtain ⟨hp, g, d, tk, os⟩ := s
    obtain ⟨hl, h⟩ := h
    have f1 := AutoSeq1.idx_int
    wp_walk using wpAny_loadPart' hl
    repeat (first
      | (refine wpAny_ite_false (decide_eq_false (by rw [c0]; exact Bool.false_ne_true)) ?_; wp_walk using wpAny_loadPart' hl)
      | (refine wpAny_ite_true (decide_eq_true c1) ?_; wp_walk using wpAny_loadPart' hl))
    exact ⟨_, rfl, h⟩
theorem tuple_mul0 (l : Addr) (items : Array Value) (n : Nat) (dd : Option Addr) (sl : Array (Option Value)) (x : Int) (u : Tok) (c0 : (decide (x < -(2 ^ 63)) || decide (x ≥ 2 ^ 63)) = false) (c1 : (items.isEmpty || x == 1) = false) (c2 : (decide (x ≤ 0) || items.isEmpty) = true) :
    Meets (Builtin.«tuple.__mul__» ⟨[.ref l, .int x u], []⟩) (fun _ R s => s.heap.get? l = some { cls := .type "tuple", dict := dd, data := .seq items n, slots := sl } ∧
      R (.ok (.ret (Value.ref s.heap.objs.size))) { s with heap := s.heap.push { cls := Value.type "tuple", data := Data.seq #[] }, toks := s.toks }) :=
  .of_wp fun prog w A R s h => by
    obtain ⟨hp, g, d, tk, os⟩ := s
    obtain ⟨hl, h⟩ := h
    have f1 := AutoSeq1.idx_int
    wp_walk using wpAny_loadPart' hl
    repeat (first
      | (refine wpAny_ite_false (decide_eq_false (by rw [c0]; exact Bool.false_ne_true)) ?_; wp_walk using wpAny_loadPart' hl)
      | (refine wpAny_ite_false (decide_eq_false (by rw [c1]; exact Bool.false_ne_true)) ?_; wp_walk using wpAny_loadPart' hl)
      | (refine wpAny_ite_true (decide_eq_true c2) ?_; wp_walk using wpAny_loadPart' hl))
    exact ⟨_, rfl, h⟩

/-- t * k -/
def rRepA (K : PySem.W.Frag) : R2 := fun x y H Q => ∃ l k xs, x = .ref l ∧ y = .int k ∧ SqT K H l xs ∧ xs ≠ [] ∧ 0 ≤ k ∧ k ≤ 1000 ∧ xs.length ≤ 1000 ∧ (k = 1 → Q (.ref l) H) ∧ (k ≠ 1 → ∀ p, H p = none → Q (.ref p) (upd H p (.tup (List.replicate k.toNat xs).flatten)))
section
variable {X : Cx}
theorem op_repA : OpR X (binaryOp .Mult) (rRepA X.K) := by
  intro pins s σ H x y v u Q I rx ry h
  obtain ⟨l, k, xs, rfl, rfl, hT, hne, h1, h2, hz, q1, q2⟩ := h
  by_cases hk2 : 2 ≤ k
  · exact op_repT pins s σ H _ _ v u Q I rx ry ⟨l, k, xs, rfl, rfl, hT, hne, hk2, h2, hz, q2 (by omega)⟩
  cases rx
  obtain ⟨t, rfl⟩ := ry
  obtain ⟨its, r, ⟨⟨cls, dd, data, sl⟩, ho, hc, n, hd⟩, hs⟩ := I.tuple hT
  simp only at hc hd
  subst hc hd
  have hle : its.length = xs.length := r.length.symm
  have hn : its ≠ [] := fun e => hne (by
    rw [e] at hle
    exact List.eq_nil_of_length_eq_zero hle.symm)
  have hi : its.toArray.isEmpty = false := by
    cases its with
    | nil => exact absurd rfl hn
    | cons a b => rfl
  have c0 : (decide (k < -(2 ^ 63)) || decide (k ≥ 2 ^ 63)) = false := by
    rw [decide_eq_false (by omega), decide_eq_false (by omega)] <;> rfl
  by_cases hk1 : k = 1
  · have c1 : (its.toArray.isEmpty || k == 1) = true := by
      rw [hk1]
      exact Bool.or_true _
    refine wpAny_binaryOp_repeat_ref (T := "tuple") (U := "int") (by decide) ⟨_, ho, rfl⟩ (fun s' => typeIs_int s' k t) noFill_tuple_mul F.fills_int_mul F.slot_int_rmul repeat_tuple F.slot_int_index.lookup
      (call_meets F.slot_int_rmul (typeIs_int s k t) F.entry_int_rmul (F.args_int_rmul_2 _ _) (int_rmul_tuple k t l its.toArray n dd sl)
        ⟨ho, rfl, ⟨_, ho, rfl⟩, call_meets F.slot_tuple_mul ⟨_, ho, rfl⟩ F.entry_tuple_mul (F.args_tuple_mul_2 _ _) (tuple_mul1 l its.toArray n dd sl k t c0 c1) ⟨ho, ?_⟩⟩)
    exact ⟨.ref l, H, I, rfl, q1 hk1⟩
  · have hk0 : k = 0 := by omega
    have c1 : (its.toArray.isEmpty || k == 1) = false := by
      rw [hi, Bool.false_or]
      exact beq_eq_false_iff_ne.mpr (by omega)
    have c2 : (decide (k ≤ 0) || its.toArray.isEmpty) = true := by
      rw [decide_eq_true (by omega)]
      rfl
    refine wpAny_binaryOp_repeat_ref (T := "tuple") (U := "int") (by decide) ⟨_, ho, rfl⟩ (fun s' => typeIs_int s' k t) noFill_tuple_mul F.fills_int_mul F.slot_int_rmul repeat_tuple F.slot_int_index.lookup
      (call_meets F.slot_int_rmul (typeIs_int s k t) F.entry_int_rmul (F.args_int_rmul_2 _ _) (int_rmul_tuple k t l its.toArray n dd sl)
        ⟨ho, rfl, ⟨_, ho, rfl⟩, call_meets F.slot_tuple_mul ⟨_, ho, rfl⟩ F.entry_tuple_mul (F.args_tuple_mul_2 _ _) (tuple_mul0 l its.toArray n dd sl k t c0 c1 c2) ⟨ho, ?_⟩⟩)
    have e0 : (List.replicate k.toNat xs).flatten = [] := by
      rw [hk0]
      rfl
    have q := q2 hk1
    rw [e0] at q
    refine ⟨.ref s.heap.objs.size, _, I.laid (t' := s.toks) (o := .tup []) (fun b ob q => Heap.get?_push_of_some _ q) (Nat.le_refl _) ?_, rfl, q _ (I.hok.fresh (Nat.le_refl _))⟩
    exact ⟨Nat.zero_le _, [], .nil, IsTup.new _ _⟩
end

/-! ### enumerate(tuple) -/
theorem meets_enumerate_newT (l : Addr) (items : Array Value) (n : Nat) (dct : Option Addr) (sl : Array (Option Value)) :
    Meets (Builtin.«enumerate.__new__» ⟨[.type "enumerate", .ref l], []⟩) (fun _ R s => s.heap.get? l = some { cls := .type "tuple", dict := dct, data := .seq items n, slots := sl } ∧
      R (.ok (.ret (.ref (s.heap.push { cls := .type "tuple_iterator", data := .fields #[.ref l, .int 0 0] }).objs.size)))
        { s with heap := (s.heap.push { cls := .type "tuple_iterator", data := .fields #[.ref l, .int 0 0] }).push { cls := .type "enumerate", data := .fields #[.none, .bool false, .ref s.heap.objs.size, rawInt 0, .none, .none] } }) :=
  .of_wp fun prog w A R s h => by
    obtain ⟨hp, g, d, tk, os⟩ := s; obtain ⟨hl, h⟩ := h
    have hsub := sub_enumerate
    have hL : Heap.IsTuple (Shared.heap ⟨hp, g, d, tk, os⟩) l items := ⟨_, hl, rfl, n, rfl⟩
    wp_walk using wpAny_loadPart' hl
    refine wpAny_stack_any fun st => wpAny_pure ?_
    split
    · rename_i c _ _ _ _ _
      cases (c == Value.type "enumerate")
      · wp_walk using wpAny_loadPart' hl, wpAny_pyIter_tuple hL
        exact ⟨_, rfl, h⟩
      · wp_walk using wpAny_loadPart' hl, wpAny_pyIter_tuple hL
        exact ⟨_, rfl, h⟩
    · wp_walk using wpAny_loadPart' hl, wpAny_pyIter_tuple hL
      exact ⟨_, rfl, h⟩
section
variable {prog : Program} {w : World} {A : Around} {E : Value → Shared → Prop} {s : Shared}
theorem call_enumerate_tuple {l : Addr} {items : Array Value} {Q : Value → Shared → Prop} (hL : s.heap.IsTuple l items)
    (h : ∀ h', IsEnum h' (s.heap.objs.size + 1) s.heap.objs.size 0 .none → h'.IsTupleIter s.heap.objs.size l 0 → h'.objs.size = s.heap.objs.size + 2 →
      (∀ b o, s.heap.get? b = some o → h'.get? b = some o) → Q (.ref (s.heap.objs.size + 1)) { s with heap := h' }) :
    wpAny (model prog w) A (call (.type "enumerate") [.ref l]) Q E s := by
  obtain ⟨⟨c, dct, dt, sl⟩, hl, hc, n, hd⟩ := hL
  replace hc : c = .type "tuple" := hc
  replace hd : dt = .seq items n := hd
  subst hc hd
  refine callType_new F.called_enumerate (by decide) (F.typeCall_enumerate_1 _) (F.newCall_enumerate_1 _) (fun obj => F.args_object_init_2 obj _) F.entry_enumerate_new
    (meets_enumerate_newT l items n dct sl) ⟨hl, ?_⟩
  have hz : (s.heap.push { cls := .type "tuple_iterator", data := .fields #[.ref l, .int 0 0] }).objs.size = s.heap.objs.size + 1 := Heap.size_push ..
  show _ ∧ _
  rw [hz]
  have he : IsEnum ((s.heap.push { cls := .type "tuple_iterator", data := .fields #[.ref l, .int 0 0] }).push
      { cls := .type "enumerate", data := .fields #[.none, .bool false, .ref s.heap.objs.size, rawInt 0, .none, .none] }) (s.heap.objs.size + 1) s.heap.objs.size 0 .none := by
    have := Heap.get?_push_size (s.heap.push { cls := .type "tuple_iterator", data := .fields #[.ref l, .int 0 0] })
      (o := { cls := .type "enumerate", data := .fields #[.none, .bool false, .ref s.heap.objs.size, rawInt 0, .none, .none] }) rfl
    rw [hz] at this; exact this
  refine ⟨⟨_, he, rfl⟩, h _ he ⟨_, Heap.get?_push_of_some _ (Heap.get?_push_size _ rfl), rfl, rfl⟩ (by rw [Heap.size_push, hz]) fun b o x => Heap.get?_push_of_some _ (Heap.get?_push_of_some _ x)⟩
end
/-- the tuple at a, each item in a new pair -/
def IteT (K : PySem.W.Frag) (a : Addr) : It :=
  ⟨fun i H => ∃ (xs : List V) (x : V), SqT K H a xs ∧ xs[i]? = some x, fun i H v H' => ∃ T x, v = .ref T ∧ H T = none ∧ H' = upd H T (.tup [.int (i : Nat), x]) ∧ ∀ xs, SqT K H a xs → xs[i]? = some x, fun i H => ∃ xs : List V, SqT K H a xs ∧ xs.length ≤ i⟩
theorem turn_enumT {P : Program} {w : World} {K : PySem.W.Frag} {elts : List Expr} {kk : Nat} {tpos : Pos} (a e it : Addr) :
    Turn P w K (.Tuple elts kk tpos) (IteT K a) [e, it] e (fun i h => (∃ old, IsEnum h e it ((i : Nat) : Int) old) ∧ h.IsTupleIter it a i ∧ e ≠ it ∧ a ≠ it ∧ a ≠ e) where
  mem := by simp
  obj := fun i h st b hb => by
    obtain ⟨⟨old, he⟩, ⟨o, ho, hc, hd⟩, _⟩ := st
    have e' : b = e ∨ b = it := by simpa using hb
    rcases e' with z | z
    · rw [z]; exact ⟨_, he, fun v q => nomatch q⟩
    · rw [z]; exact ⟨o, ho, fun v q => by rw [hd] at q; cases q⟩
  keep := fun i h h' st k => let ⟨⟨old, he⟩, hi, hne⟩ := st; ⟨⟨old, k e (by simp) _ he⟩, hi.at fun o q => k it (by simp) o q, hne⟩
  item := by
    intro X hP hw hK hc i pins s σ H E I hf st hg
    subst hP hw hK
    obtain ⟨⟨old, he⟩, hit, hne, hai, hae⟩ := st
    obtain ⟨xs, x, hq, hx⟩ := hg
    obtain ⟨its, rv, p, hz⟩ := I.tuple hq
    obtain ⟨u, hu, ru⟩ := rv.get hx
    have hel : e < s.heap.objs.size := Heap.lt_size he
    have hil : it < s.heap.objs.size := by obtain ⟨_, q, _⟩ := hit; exact Heap.lt_size q
    have hlt : i < its.toArray.size := by
      rw [List.size_toArray]
      exact (List.getElem?_eq_some_iff.mp hu).1
    refine wpAny_pyNext_enum_itemD (Draws.tuple (A := X.A.in1) (prog := X.prog) (w := X.w) (I.ok.hd hc) it a hai its.toArray) he ⟨hit, (show s.heap.IsTuple a its.toArray from p)⟩ hlt hne (by simp [hne, Ne.symm hae]) fun x' h' tk hx' ho hst' hT hsz hk => ?_
    obtain ⟨hit', _⟩ := hst'
    have ex : x' = u := by
      have e1 : its.toArray[i]? = some u := by simpa using hu
      have e2 : its.toArray[i]? = some x' := hx'
      rw [e1] at e2
      exact (Option.some.inj e2).symm
    subst ex
    refine ⟨_, rfl, wpAny_letOwnedTupleGo_enum (s := { s with heap := h', toks := tk + 1 }) ho fun h'' he' sb => ?_⟩
    have hT2 : h''.get? s.heap.objs.size = some { cls := .type "tuple", data := .seq #[.int i tk, x'] } := (sb.2 _ (Nat.ne_of_gt hel)).trans hT
    have new : ObjOk X.prog X.w (upd H s.heap.objs.size (.tup [.int (i : Nat), x])) h'' s.heap.objs.size (.tup [.int (i : Nat), x]) :=
      ⟨by show 2 ≤ sizeLine; decide, [.int i tk, x'], .cons ⟨_, rfl⟩ (.cons ru .nil), ⟨_, hT2, rfl, _, rfl⟩⟩
    have I1 : Inv X pins σ (upd H s.heap.objs.size (.tup [.int (i : Nat), x])) { s with heap := h'', toks := tk + 1 } :=
      I.turnedNew (ch := [e, it]) (fun b ob hb q => (sb.2 b (fun z => hb (by simp [z]))).trans (hk b ob (fun z => hb (by simp [z])) (fun z => hb (by simp [z])) q)) hf (Nat.le_refl _) new
    refine ⟨.ref s.heap.objs.size, _, I1, rfl, ⟨_, x, rfl, I.hok.fresh (Nat.le_refl _), rfl, fun ys hy => by rw [I.tuple_inj hy hq]; exact hx⟩, ⟨⟨x', ?_⟩, hit'.at fun o q => (sb.2 it (Ne.symm hne)).trans q, hne, hai, hae⟩, fun b hb => ?_⟩
    · have e1 : ((i + 1 : Nat) : Int) = (i : Int) + 1 := by omega
      rw [e1]; exact he'
    · have hb' : b < s.heap.objs.size := by
        have e' : b = e ∨ b = it := by simpa using hb
        rcases e' with z | z
        · rw [z]; exact hel
        · rw [z]; exact hil
      rw [upd_ne (Nat.ne_of_lt hb')]
      exact (hf b hb).1
  done := by
    intro X hP hw hK hc i pins s σ H E I hf st hg
    subst hP hw hK
    obtain ⟨⟨old, he⟩, hit, hne, hai, hae⟩ := st
    obtain ⟨xs, hq, hx⟩ := hg
    obtain ⟨its, rv, p, hz⟩ := I.tuple hq
    obtain ⟨f0, f1, f2, f3, f4, f5⟩ := hf it (by simp)
    have hl := rv.length
    have hT : s.TypeIs (.ref e) "enumerate" := ⟨_, he, rfl⟩
    unfold pyNext
    refine wpAny_bind (wpAny_attempt (wpAny_callSpecial?_slot (name := Str.ofString "__next__") hT F.slot_enumerate_next
      (wpAny_call_entry F.slot_enumerate_next hT F.entry_enumerate_next ?_ (F.args_enumerate_next_1 _))))
    show wpAny _ _ (field (.ref e) 2 >>= _) _ _ _
    refine wpAny_bind (wpAny_field he rfl (x := .ref it) rfl ?_)
    refine wpAny_bind (wpAny_nextOf_tuple_end (I.ok.hd hc) hit (show s.heap.IsTuple a its.toArray from p) (by simp; omega) fun h' x he' hx' => ?_)
    obtain ⟨o, ho, hcc⟩ := hx'
    refine wpAny_bind (wpAny_isInstance (T := "StopIteration") (b := true) ⟨o, ho, hcc⟩ isSubtype_stop ?_)
    exact wpAny_pure ⟨rfl, I.turned (t' := s.toks) (fun b o hb q => he' b o hb q) f0 f1 f3 f4 f5⟩
  self := fun A i s Q E st h => let ⟨⟨_, he⟩, _⟩ := st; wpAny_pyIter_enum he h
def iEnumT (K : PySem.W.Frag) (ta : TA) : TI := fun σ H R => ta σ H fun vs H1 => ∃ a xs, vs = [.ref a] ∧ SqT K H1 a xs ∧ R (IteT K a) H1
theorem pi_enumT {X : Cx} {e : Expr} {ta : TA} {p pos tpos : Pos} {elts : List Expr} {kk : Nat} (hg : Gl X "enumerate") (hm : X.mg "enumerate" = none) (ha : PA X [e] ta) (hs : starEach [e] X.env = [(false, eval e X.env)] := by rfl) :
    PI X (.Tuple elts kk tpos) (.Call (.Name "enumerate" p) [e] [] pos) (iEnumT X.K ta) := by
  refine ⟨fun pins s σ H R I h => ?_⟩
  refine Call_ (ld_blt I hg hm boot_enumerate (PyProof.Rows.callWith_type1 (thn (ha.run pos pins s σ H _ I h) fun us s1 ⟨vs, H1, I1, r1, q1⟩ => ?_) hs rfl))
  obtain ⟨a, xs, ex, hq, q⟩ := q1
  subst ex
  cases r1 with
  | cons r rr =>
    cases rr
    cases r
    obtain ⟨its, rv, p', hz⟩ := I1.tuple hq
    have hal : a < s1.heap.objs.size := p'.lt
    refine call_enumerate_tuple (show s1.heap.IsTuple a its.toArray from p') fun h' he hit hsz hk => wpAny_pyIter_enum he ?_
    have I2 : Inv X pins σ H1 { s1 with heap := h' } := I1.kept (t' := s1.toks) hk
    refine ⟨s1.heap.objs.size + 1, [s1.heap.objs.size + 1, s1.heap.objs.size], _, _, H1, rfl, I2, turn_enumT a (s1.heap.objs.size + 1) s1.heap.objs.size, ⟨⟨.none, he⟩, hit, Nat.succ_ne_self _, Nat.ne_of_lt hal, Nat.ne_of_lt (Nat.lt_succ_of_lt hal)⟩, fun b hb => ?_, q⟩
    have e' : b = s1.heap.objs.size + 1 ∨ b = s1.heap.objs.size := by simpa using hb
    have hle : s1.heap.objs.size ≤ b := by
      rcases e' with z | z
      · rw [z]; exact Nat.le_add_right _ _
      · rw [z]; exact Nat.le_refl _
    exact I1.fpOk hle (I1.hok.fresh hle)
theorem walk_enumT {K : PySem.W.Frag} {a : Addr} {xs : List V} : Walk (IteT K a) xs.length (fun H => SqT K H a xs) (YPair (fun i => some (.int (i : Nat))) (fun i => xs[i]?)) := by
  refine ⟨fun i _ hi q => ⟨xs, xs[i], q, by simp [hi]⟩, fun _ q => ⟨xs, q, Nat.le_refl _⟩, fun i H v H' _ q y => ?_⟩
  obtain ⟨T, x, h1, h2, h3, h4⟩ := y
  exact ⟨T, .int (i : Nat), x, h1, h2, h3, rfl, h4 xs q⟩

/-! ### len(set(t)), t a tuple of tuples of ints -/
/-- a set that has just been made -/
abbrev newSetO (w : World) : Obj := { cls := .type "set", dict := none, data := .set #[] 0 (.fresh 0 0 (!w.params.followText "set-order")) }
section
variable {P : Program} {w : World} {A : Around} {E : Value → Shared → Prop} {s : Shared}
/-- set(x), by what its __init__ does with x -/
theorem set_shell {x : Value} {Q : Value → Shared → Prop}
    (hi : wpAny (model P w) A.in1.in1 (Builtin.«set.__init__» ⟨[.ref s.heap.objs.size, x], []⟩) (fun fin s' => fin = .done (.ret .none) ∧ Q (.ref s.heap.objs.size) s') (fun _ _ => False) { s with heap := s.heap.push (newSetO w) }) :
    wpAny (model P w) A (call (.type "set") [x]) Q E s := by
  have fc := F.called_set
  obtain ⟨c, tl, hmro⟩ := fc.mro
  have hm := fc.made
  have hs := fc.sub
  have hnt := fc.notType
  have hcc := fc.canCreate
  have hct := F.typeCall_set_1 x
  refine wpAny_call (codeAny_of_tree (wpAny_pure ⟨Code.quiet_builtin _ (by decide +kernel), codeAny_builtin F.entry_type_call ?_⟩))
  rw [Around.under_plain (weight_type_call_type "set" [x] []) rfl]
  repeat (any_goals (first | assumption | wp_step))
  refine codeAny_mono (code_set_led1 x (E := fun _ _ => False) (Q₁ := fun o s₁ => o = .ref s.heap.objs.size ∧ s₁ = { s with heap := s.heap.push (newSetO w) }) ⟨rfl, rfl⟩) fun r s₁ hr => ?_
  match r, hr with
  | .ok (.ret o), hr =>
    obtain ⟨rfl, rfl⟩ := hr
    have hS : (s.heap.push (newSetO w)).get? s.heap.objs.size = some (newSetO w) := Heap.get?_push_size _ rfl
    have hT : Shared.TypeIs { s with heap := s.heap.push (newSetO w) } (.ref s.heap.objs.size) "set" := ⟨_, hS, rfl⟩
    have hli := fc.init.lookup
    have hbi := fc.init.bind (.ref s.heap.objs.size)
    repeat (any_goals (first | assumption | wp_step))
    refine codeAny_mono (codeAny_call_builtin (R := wants (fun r s₂ => r = .none ∧ Q (.ref s.heap.objs.size) s₂) fun _ _ => False) fc.init.plain F.entry_set_init (check_set_init_1 hT ?_)) fun r₂ s₂ hr₂ => ?_
    · refine wpAny_mono hi (fun fin s' hf => ?_) fun _ _ z => z.elim
      obtain ⟨rfl, hq⟩ := hf
      exact ⟨rfl, hq⟩
    · match r₂, hr₂ with
      | .ok (.ret u), hr₂ =>
        obtain ⟨rfl, hq⟩ := hr₂
        repeat (any_goals (first | assumption | wp_step))
/-- the tuples of ints ks at the tuple l, put into a new set -/
theorem set_from_tup {l : Addr} {items : Array Value} (ks : List (Addr × List Int)) {Q : Value → Shared → Prop} (hh : A.handled = none) (hl : s.heap.IsTuple l items) (hit : items.toList = ks.map fun p => Value.ref p.1)
    (hk : ∀ p ∈ ks, IsT P w s.heap p.2 p.1) (hfew : ks.length < 64) (hu : A.units + 3 < cLine)
    (h : ∀ (h' : Heap) (tk : Nat) L es ep t, SetTR P w h' s.heap.objs.size L es ep t → Got ks ks.length L → (∀ b o, s.heap.get? b = some o → h'.get? b = some o) → Q (.ref s.heap.objs.size) { s with heap := h', toks := tk }) :
    wpAny (model P w) A (call (.type "set") [.ref l]) Q E s := by
  have hisz : items.size = ks.length := by
    rw [← Array.length_toList, hit, List.length_map]
  have hlS : l < s.heap.objs.size := by
    obtain ⟨o, ho, _⟩ := id hl
    exact Heap.lt_size ho
  refine set_shell ?_
  -- the walk of the tuple into the set's object
  have fill : ∀ (s1 : Shared), s1 = { s with heap := s.heap.push (newSetO w) } → wpAny (model P w) A.in1.in1 (pyIter (.ref l)) (fun it s2 => wpAny (model P w) A.in1.in1 (runValue (.builtin "set.update.loop" ⟨[.ref s.heap.objs.size, it], []⟩)) (fun _ s' => Q (.ref s.heap.objs.size) s') (fun _ _ => False) s2) (fun _ _ => False) s1 := by
    intro s1 e1
    subst e1
    have hl1 : (s.heap.push (newSetO w)).IsTuple l items := by
      obtain ⟨o, ho, r⟩ := id hl
      exact ⟨o, Heap.get?_push_of_some _ ho, r⟩
    have hz : (s.heap.push (newSetO w)).objs.size = s.heap.objs.size + 1 := Heap.size_push ..
    refine wpAny_pyIter_tuple hl1 (wpAny_runValue ?_)
    have above : ∀ b, s.heap.objs.size ≤ b → s.heap.get? b = none := fun b hb => Heap.get?_none_of_le hb
    have hneI : l ≠ (s.heap.push (newSetO w)).objs.size := by
      rw [hz]
      exact Nat.ne_of_lt (Nat.lt_succ_of_lt hlS)
    refine set_update_tups ((Walks.tuple (A := A.in1.in1.in1) (prog := P) (w := w) hh _ l hneI items).toS) s.heap.objs.size (by simp only [List.mem_cons, List.not_mem_nil, or_false, not_or, hz]; exact ⟨Nat.ne_of_lt (Nat.lt_succ_self _), Nat.ne_of_gt hlS⟩)
      ks hisz hfew (fun i v hv => ?_) s.heap hk (above _ (Nat.le_refl _)) (fun b hb => above b (by rw [List.mem_singleton.mp hb, hz]; exact Nat.le_succ _)) (by show A.units + 1 + 1 + 1 < _; omega) items.size 0 _ (by omega) (Nat.zero_le _)
      ⟨⟨_, Heap.get?_push_size _ rfl, rfl, rfl⟩, hl1.push _⟩ (fun b o e => Heap.get?_push_of_some _ (Heap.get?_push_of_some _ e)) ⟨[], #[], 0, _, setTR_fresh (Heap.get?_push_of_some _ (Heap.get?_push_size _ rfl)), Got.zero ks⟩ fun s' L es ep t hm hS g hkp => ?_
    · have q : items.toList[i]? = some v := by
        rw [Array.getElem?_toList]
        exact hv
      rw [hit, List.getElem?_map] at q
      obtain ⟨p, hp, ep⟩ := Option.map_eq_some_iff.mp q
      exact ⟨p, hp, ep.symm⟩
    · obtain ⟨h', g', d', tk', os'⟩ := s'
      obtain rfl : g' = s.gens := hm.gens
      obtain rfl : d' = s.drawn := hm.drawn
      obtain rfl : os' = s.os := hm.os
      rw [hisz] at g
      exact h h' tk' L es ep t hS g hkp
  obtain ⟨⟨oc, od, odt, osl⟩, ho, hoc, n, hod⟩ := id hl
  simp only at hoc hod
  subst hoc hod
  have hS0 : (s.heap.push (newSetO w)).get? s.heap.objs.size = some (newSetO w) := Heap.get?_push_size _ rfl
  have ho1 : (s.heap.push (newSetO w)).get? l = some { cls := .type "tuple", dict := od, data := .seq items n, slots := osl } := Heap.get?_push_of_some _ ho
  have f1 := F.sub_tuple_set
  have f2 := F.sub_tuple_frozenset
  have f3 : (Value.type "tuple" == Value.type "dict") = false := by decide
  have hT : Shared.TypeIs { s with heap := s.heap.push (newSetO w) } (.ref s.heap.objs.size) "set" := ⟨_, hS0, rfl⟩
  unfold Builtin.«set.__init__» noKeywords Builtin.Frozenset.updateFrom
  generalize hPI : pyIter = PI at fill ⊢
  wp_walk
  refine wpAny_mono (fill _ rfl) (fun it s2 h2 => wpAny_bind (wpAny_mono h2 (fun _ s3 hq => ?_) fun _ _ z => z)) fun _ _ z => z
  exact wpAny_pure (wpAny_pure ⟨rfl, hq⟩)
end
theorem nodup_le : ∀ (l D : List (List Int)), l.Nodup → (∀ x ∈ l, x ∈ D) → l.length ≤ D.length
  | [], _, _, _ => Nat.zero_le _
  | a :: l, D, hn, hs => by
    have ha : a ∈ D := hs a List.mem_cons_self
    have h1 := nodup_le l (D.erase a) (List.nodup_cons.mp hn).2 fun x hx => (List.mem_erase_of_ne fun e => (List.nodup_cons.mp hn).1 (by rw [← e]; exact hx)).mpr (hs x (List.mem_cons_of_mem _ hx))
    have h2 := List.length_erase_of_mem ha
    have h3 : 0 < D.length := List.length_pos_of_mem ha
    rw [List.length_cons]
    omega
/-- len(set(t)), t a tuple of unlike tuples of ints -/
def tLenSetT (K : PySem.W.Frag) (ta : TE) : TE := fun σ H Q => ta σ H fun x H1 => ∃ (l : Addr) (ks : List (Addr × List Int)), x = V.ref l ∧ SqT K H1 l (ks.map fun p => V.ref p.1) ∧ (∀ p ∈ ks, SqT K H1 p.1 (p.2.map V.int)) ∧ ks.length < 64 ∧ (ks.map (·.2)).Nodup ∧ Q (.int (ks.length : Nat)) H1
theorem pe_lenSetT {X : Cx} {a : Expr} {ta : TE} {p p2 q pos : Pos} {k : Nat} (hr : Room k X.A) (hc : X.calm = true) (hg : Gl X "len") (hm : X.mg "len" = none) (hg2 : Gl X "set") (hm2 : X.mg "set" = none) (ha : PE X a ta)
    (na : starEach [a] X.env = (false, eval a X.env) :: starEach [] X.env := by rfl) : PE X (.Call (.Name "len" p) [.Call (.Name "set" p2) [a] [] q] [] pos) (tLenSetT X.K ta) := by
  refine ⟨fun pins s σ H Q I h => ?_⟩
  refine Call_ (ld_blt I hg hm PySem.boot_len ?_)
  refine PyProof.Rows.callWith_builtin1 (PyProof.Rows.args_cons ?_ rfl) rfl rfl
  refine Call_ (ld_blt I hg2 hm2 PyProof.Rows.boot_set ?_)
  refine PyProof.Rows.callWith_type1 (PyProof.Rows.args_cons (thn (ha.run pins s σ H _ I h) fun v s1 ⟨x, H1, I1, r1, q1⟩ => PyProof.Rows.args_nil ?_) na) na rfl
  obtain ⟨l, ks, rfl, hl, hk, hf, hnd, q1⟩ := q1
  cases r1
  obtain ⟨its, rv, pl, hz⟩ := I1.tuple hl
  refine set_from_tup (P := X.prog) (w := X.w) ks (I1.ok.hd hc) (show s1.heap.IsTuple l its.toArray from pl) (by simpa using refs_of_vals rv) (fun p hp => I1.isT (hk p hp)) hf (by have := hr.un; omega) fun h' tk L es ep t R g kp => ?_
  refine PyProof.Rows.args_nil ?_
  have I2 : Inv X pins σ H1 { s1 with heap := h', toks := tk } := I1.kept kp
  have hL : L.length = ks.length := by
    have e1 : (L.map (·.2)).length ≤ (ks.map (·.2)).length := nodup_le _ _ R.nd fun x hx => by
      obtain ⟨p, hp, rfl⟩ := List.mem_map.mp hx
      exact List.mem_map.mpr ⟨p, List.mem_of_mem_take (g.sub p hp), rfl⟩
    have e2 : (ks.map (·.2)).length ≤ (L.map (·.2)).length := nodup_le _ _ hnd fun x hx => by
      obtain ⟨p, hp, rfl⟩ := List.mem_map.mp hx
      exact g.all p (by rw [List.take_length]; exact hp)
    rw [List.length_map, List.length_map] at e1 e2
    omega
  obtain ⟨o, ho, hex, hd⟩ := R.ob
  have hes : es.size = ks.length := (R.size (s := { s1 with heap := h', toks := tk })).trans hL
  exact call_len_set ho hex hd (R.fits (s := { s1 with heap := h', toks := tk })) (by omega) ⟨.int (ks.length : Nat), H1, I2.tok _, ⟨_, by rw [hes]⟩, q1⟩
end GO

set_option Elab.async false
set_option linter.all false
set_option maxRecDepth 100000
set_option maxHeartbeats 4000000
/-! the defs of onelife.machines -/
namespace LT
open PySem PySem.Spec PyProof.Rows L2
/-! ### the text -/
def topS (i : Nat) : Stmt := PySem.Challenge.pw_onelife_k21_whole_loud_tables.main.body.getD i (.Pass ⟨0, 0, 0, 0⟩)
/-- what the top has bound: built-ins, constants -/
structure Gb (mg : Str → Option Value) : Prop where
  isi : mg "isinstance" = none
  int : mg "int" = none
  bool : mg "bool" = none
  str : mg "str" = none
  tuple : mg "tuple" = none
  len : mg "len" = none
  all : mg "all" = none
  enum : mg "enumerate" = none
  range : mg "range" = none
  sorted : mg "sorted" = none
  zip : mg "zip" = none
  set : mg "set" = none
  list : mg "list" = none
  states : ∃ t, mg "MOST_STATES" = some (.int 40 t)
  options : ∃ t, mg "MOST_OPTIONS" = some (.int 6 t)
  letters : ∃ t, mg "MOST_LETTERS" = some (.int 8 t)
  abc : ∃ t, mg "LETTERS" = some (.str "abcdefghijklmnopqrstuvwxyz" t)
  marks : ∃ t, mg "MOST_MARKS" = some (.int 4 t)
  row : ∃ t, mg "MOST_ROW" = some (.int 8 t)
  many : ∃ t, mg "MOST_MANY" = some (.int 40 t)
  length : ∃ t, mg "MOST_LENGTH" = some (.int 12 t)
/-- a def of the text as it stands behind the top; c: its code -/
structure Df (K : PySem.W.Frag) (mg : Str → Option Value) (x : Str) (st : Stmt) (ps : List Str) (dvs : List V) (c : Value) : Prop where
  ex : ∃ (f : Addr) (fd : FuncData) (dd : List V) (ds : List Value), FunD K x x (defArgs st) (defBody st) (defScope st) dd [] f fd ∧ mg x = some (.ref f) ∧ Binds K fd ps ds ∧ Vals dvs ds ∧ fd.code = c
section
variable {P : Program} {w : World} {K : PySem.W.Frag} {mg : Str → Option Value} {base : Heap}
theorem Df.cal {x : Str} {st : Stmt} {N ps : List Str} {dvs : List V} {k : Nat} {sp : Sp} {c : Value} (F : Df K mg x st ps dvs c) (S : FnScope N ps (defScope st)) (len : ∀ vs H Q E, sp vs H Q E → vs.length = ps.length)
    (hbody : ∀ (f : Addr) (A : Around) (outer : List Env) (s : Shared) (H : Hp) (vs : List V) (Q : VK) (E : XK), Room k (A.deeper (envOfC x (defScope st) s.heap.objs.size f c)) → sp vs H Q E →
      ∃ t, PSs (cxOf CX0 P w K mg base N x (defScope st) f c A outer s H E).nox (defBody st) t ∧ t { nx := fun _ H' => Q .non H', rt := Q } (start N vs) H) : C8.Cal P w K mg base (k + 1) x sp dvs := by
  obtain ⟨f, fd, dd, ds, F, hm, b, d, hc⟩ := F.ex
  have kp := F.kp
  obtain ⟨oc, od, dV, kV, doc, pm, an, cdv, ct, osl, rfl, lk, hcd, _, _⟩ := F.ex
  have e : cdv = c := hc
  subst e
  refine ⟨f, _, ps, ds, fn_of lk hcd S len fun A outer s H vs Q E hr hsp => ?_, hm, kp, b, d⟩
  obtain ⟨t, h, q⟩ := hbody f A outer s H vs Q E hr hsp
  exact ⟨t, h.nox, q⟩
end
/-! ### heaps: the tables of the defs' code objects grow, all else stays -/
structure Tb where
  gs : List Addr
  cn : Addr
def qnC : Str := (("canonical" : Str) ++ ".<locals>.") ++ "<lambda>"
structure TOk (t : Tb) (H : Hp) : Prop where
  g : ∀ P ∈ t.gs, GxR.TabG H P
  l : LamX.TabS H t.cn qnC
  n : t.cn ∉ t.gs
structure Gr (t : Tb) (H H' : Hp) : Prop where
  ext : LamX.ExtN H H'
  ok : TOk t H'
  free : ∀ b, H' b = none → H b = none
section
variable {t : Tb} {H H1 H2 : Hp} {K : PySem.W.Frag}
theorem upd_none {a b : Addr} {o : HO} (h : upd H a o b = none) : H b = none := by
  by_cases e : b = a
  · rw [e, upd_same] at h
    cases h
  · rwa [upd_ne e] at h
theorem TOk.gr (h : TOk t H) : Gr t H H := ⟨LamX.ExtN.refl H, h, fun _ e => e⟩
theorem Gr.trans (a : Gr t H H1) (b : Gr t H1 H2) : Gr t H H2 := ⟨a.ext.trans b.ext, b.ok, fun x e => a.free x (b.free x e)⟩
theorem TOk.same (h : TOk t H) (e : Same H H1) : TOk t H1 := ⟨fun P hP => by
  obtain ⟨ps, h1, h2⟩ := h.g P hP
  exact ⟨ps, e _ _ h1, h2⟩, h.l.ext e, h.n⟩
theorem same_new {p : Addr} {o : HO} (h : H p = none) : Same H (upd H p o) := fun b x e => by
  rw [upd_ne (ne_of_none e h)]
  exact e
theorem Gr.new {p : Addr} {o : HO} (a : Gr t H H1) (h : H1 p = none) : Gr t H (upd H1 p o) := ⟨a.ext.trans (LamX.ExtN.of (same_new h)), a.ok.same (same_new h), fun x e => a.free x (upd_none e)⟩
theorem TOk.tabbed {P : Addr} (h : TOk t H) (hP : P ∈ t.gs) (e : GxR.Tabbed P H H1) : Gr t H H1 := by
  obtain ⟨ps0, hP0, _⟩ := h.g P hP
  have nc : t.cn ≠ P := fun z => h.n (by rw [z]; exact hP)
  have ext : LamX.ExtN H H1 := fun b o hb n => by
    rw [e.2 b (fun z => n ps0 (by rw [z, hP0] at hb; exact (Option.some.inj hb).symm))]
    exact hb
  refine ⟨ext, ⟨fun P' hP' => ?_, ?_, h.n⟩, fun b hb => ?_⟩
  · by_cases z : P' = P
    · rw [z]
      exact e.1
    · obtain ⟨ps, h1, h2⟩ := h.g P' hP'
      exact ⟨ps, by rw [e.2 _ z]; exact h1, h2⟩
  · obtain ⟨ps, h1, h2, h3⟩ := h.l
    refine ⟨ps, by rw [e.2 _ nc]; exact h1, h2, fun pos cv hc => ?_⟩
    obtain ⟨c, e1, e2⟩ := h3 pos cv hc
    exact ⟨c, e1, ext _ _ e2 LamX.codeO_ne⟩
  · by_cases z : b = P
    · obtain ⟨ps, h1, _⟩ := e.1
      rw [z, h1] at hb
      cases hb
    · rw [← e.2 b z]
      exact hb
theorem TOk.far (h : TOk t H) (e : GS.Far t.cn H H1) (l : LamX.TabS H1 t.cn qnC) : Gr t H H1 := by
  obtain ⟨ps, h1, _⟩ := h.l
  refine ⟨GS.far_extN h1 e, ⟨fun P hP => ?_, l, h.n⟩, fun b hb => ?_⟩
  · obtain ⟨ps', h2, h3⟩ := h.g P hP
    exact ⟨ps', e _ _ (fun z => h.n (by rw [← z]; exact hP)) h2, h3⟩
  · by_cases z : b = t.cn
    · obtain ⟨ps', h2, _⟩ := l
      rw [z, h2] at hb
      cases hb
    · cases q : H b with
      | none => rfl
      | some o =>
        rw [e b o z q] at hb
        cases hb
theorem Gr.sqT {a : Addr} {xs : List V} (g : Gr t H H1) (h : SqT K H a xs) : SqT K H1 a xs := GS.sqT_ext h g.ext
theorem Gr.sqL {a : Addr} {xs : List V} (g : Gr t H H1) (h : SqL K H a xs) : SqL K H1 a xs := GS.sqL_ext h g.ext
theorem TOk.mut {l : Addr} {xs ys : List V} (h : TOk t H) (e : H l = some (.lst xs)) : TOk t (upd H l (.lst ys)) := by
  have at_ : ∀ {b : Addr} {o : HO}, H b = some o → (∀ zs, o ≠ .lst zs) → upd H l (.lst ys) b = some o := fun {b o} hb n => by
    rw [upd_ne (fun z => n xs (by rw [z, e] at hb; exact (Option.some.inj hb).symm))]
    exact hb
  refine ⟨fun P hP => ?_, ?_, h.n⟩
  · obtain ⟨ps, h1, h2⟩ := h.g P hP
    exact ⟨ps, at_ h1 (fun zs z => by cases z), h2⟩
  · obtain ⟨ps, h1, h2, h3⟩ := h.l
    refine ⟨ps, at_ h1 (fun zs z => by cases z), h2, fun pos cv hc => ?_⟩
    obtain ⟨c, e1, e2⟩ := h3 pos cv hc
    exact ⟨c, e1, at_ e2 (fun zs z => by unfold LamX.CodeO at z; cases z)⟩
theorem TOk.put {l : Addr} {o o' : HO} (h : TOk t H) (e : H l = some o) (n1 : ∀ ps, o ≠ .tbl ps) (n2 : ∀ φ, o ≠ .ext φ) : TOk t (upd H l o') := by
  have at_ : ∀ {b : Addr} {u : HO}, H b = some u → u ≠ o → upd H l o' b = some u := fun {b u} hb n => by
    rw [upd_ne (fun z => n (by rw [z, e] at hb; exact (Option.some.inj hb).symm))]
    exact hb
  refine ⟨fun P hP => ?_, ?_, h.n⟩
  · obtain ⟨ps, h1, h2⟩ := h.g P hP
    exact ⟨ps, at_ h1 (fun z => n1 ps z.symm), h2⟩
  · obtain ⟨ps, h1, h2, h3⟩ := h.l
    refine ⟨ps, at_ h1 (fun z => n1 ps z.symm), h2, fun pos cv hc => ?_⟩
    obtain ⟨c, e1, e2⟩ := h3 pos cv hc
    exact ⟨c, e1, at_ e2 (fun z => n2 _ z.symm)⟩
theorem Gr.put {l : Addr} {o o' : HO} (g : Gr t H H1) (nl : H l = none) (e : H1 l = some o) (n1 : ∀ ps, o ≠ .tbl ps) (n2 : ∀ φ, o ≠ .ext φ) : Gr t H (upd H1 l o') :=
  ⟨fun b u hb n => by
    rw [upd_ne (ne_of_none hb nl)]
    exact g.ext _ _ hb n, g.ok.put e n1 n2, fun x h => g.free x (upd_none h)⟩
/-- a list that is new since H is written -/
theorem Gr.mut {l : Addr} {xs ys : List V} (g : Gr t H H1) (nl : H l = none) (e : H1 l = some (.lst xs)) : Gr t H (upd H1 l (.lst ys)) :=
  ⟨fun b o hb n => by
    rw [upd_ne (ne_of_none hb nl)]
    exact g.ext _ _ hb n, g.ok.mut e, fun x h => g.free x (upd_none h)⟩
theorem sqT_ty {a : Addr} {xs : List V} (h : SqT K H a xs) : TyX K H (.ref a) (.type "tuple") := by
  rcases h with (h | ⟨o, h⟩) | ⟨o, its, n, h1, h2, _⟩
  · exact .base (.tup h)
  · exact .fTuple h
  · exact .kTuple h1 h2
/-- a tuple stays while another thing is written -/
theorem sqT_upd {l p : Addr} {o o' : HO} {xs : List V} (h : SqT K H p xs) (e : H l = some o) (n1 : ∀ ys, o ≠ .tup ys) (n2 : ∀ ob ys, o ≠ .frz ob ys) : SqT K (upd H l o') p xs := by
  rcases h with (h | ⟨ob, h⟩) | h
  · refine .inl (.inl ?_)
    rw [upd_ne (fun z => n1 xs (by rw [z, e] at h; exact Option.some.inj h))]
    exact h
  · refine .inl (.inr ⟨ob, ?_⟩)
    rw [upd_ne (fun z => n2 ob _ (by rw [z, e] at h; exact Option.some.inj h))]
    exact h
  · exact .inr h
theorem sqT_fun {a : Addr} {xs : List V} {T : PySem.W.Frag} (h : H a = some (.tup xs)) : SqT T H a xs := .inl (.inl h)
end
/-- len of a list or a tuple, the known part named -/
def rLenK (K : PySem.W.Frag) : List V → Hp → VK → Prop := fun xs H Q => ∃ p ys, xs = [.ref p] ∧ (SqL K H p ys ∨ SqT K H p ys) ∧ Q (.int ys.length) H
theorem call_lenK {X : Cx} (K : PySem.W.Frag) (e : X.K = K) : CallR X (.builtin "len") (rLenK K) := by
  subst e
  exact call_len_seq
/-! ### all over a tuple, a text: each answer is true -/
theorem turns_tup {K : PySem.W.Frag} {k : Nat} {σ : L2.St} {te : TE} {Q : VK} {a : Addr} {xs : List V} (Pv : Hp → Prop) (hG : ∀ H, Pv H → SqT K H a xs)
    (hs : ∀ (i : Nat) x H, xs[i]? = some x → Pv H → te (σ.set k (some x)) H fun z H2 => ∃ b, z = .bl b ∧ if b = true then Pv H2 else Q (.bl false) H2) (hd : ∀ H, Pv H → Q (.bl true) H) :
    GA.Turns (Itt K a) k σ te Q (fun i m H => i + m = xs.length ∧ Pv H) := by
  intro i m H ⟨e, hv⟩
  by_cases hi : i < xs.length
  · have hx := List.getElem?_eq_getElem hi
    refine .inr ⟨⟨xs, _, hG H hv, hx⟩, Pv, fun H' hN => ⟨m - 1, by omega, by omega, hN⟩, fun y H' hy => ?_⟩
    obtain ⟨rfl, f⟩ := hy
    have ey := f xs (hG _ hv)
    exact hs i y _ ey hv
  · exact .inl ⟨⟨xs, hG H hv, by omega⟩, hd H hv⟩
theorem turns_str {k : Nat} {σ : L2.St} {te : TE} {Q : VK} {z : Str} (Pv : Hp → Prop)
    (hs : ∀ (i : Nat) (c : Nat) H, z.cps[i]? = some c → Pv H → te (σ.set k (some (.str ⟨#[c]⟩))) H fun z H2 => ∃ b, z = .bl b ∧ if b = true then Pv H2 else Q (.bl false) H2) (hd : ∀ H, Pv H → Q (.bl true) H) :
    GA.Turns (Its z) k σ te Q (fun i m H => i + m = z.cps.size ∧ Pv H) := by
  intro i m H ⟨e, hv⟩
  by_cases hi : i < z.cps.size
  · refine .inr ⟨hi, Pv, fun H' hN => ⟨m - 1, by omega, by omega, hN⟩, fun y H' hy => ?_⟩
    obtain ⟨rfl, c, hc, rfl⟩ := hy
    exact hs i c _ hc hv
  · exact .inl ⟨by show z.cps.size ≤ i; omega, hd H hv⟩
/-! ### is_number, need_number -/
abbrev sIsNumber : Stmt := topS 13
theorem scIsNumber : FnScope ["value", "low", "high"] ["value", "low", "high"] (defScope sIsNumber) := ⟨rfl, rfl, rfl, by decide +kernel, rfl, by decide +kernel, by decide +kernel⟩
/-- an int within its bounds -/
def spNum : Sp := fun vs H Q _ => ∃ v lo hi : Int, vs = [.int v, .int lo, .int hi] ∧ lo ≤ v ∧ v ≤ hi ∧ Q (.bl true) H
section
variable {P : Program} {w : World} {K : PySem.W.Frag} {mg : Str → Option Value} {base : Heap}
theorem ok_isNumber {c : Value} (G : Gb mg) (F : Df K mg "is_number" sIsNumber ["value", "low", "high"] [] c) : C8.Cal P w K mg base 1 "is_number" spNum [] := by
  refine F.cal (k := 0) scIsNumber (fun vs H Q E h => ?_) (fun f A outer s H vs Q E hr h => ?_)
  · obtain ⟨v, lo, hi, rfl, _⟩ := h
    rfl
  · obtain ⟨v, lo, hi, rfl, h1, h2, q⟩ := h
    refine ⟨_, pss_one (ps_ret (pe_and (pe_callB call_isi rfl G.isi boot_isinstance (pa_cons (pv 0) (pa_cons (pe_bltn (v := .ty "int") rfl G.int boot_int rfl) pa_nil)))
      (pe_and (pe_not (pe_callB call_isi rfl G.isi boot_isinstance (pa_cons (pv 0) (pa_cons (pe_bltn (v := .ty "bool") rfl G.bool boot_bool rfl) pa_nil))))
        (pe_one (pe_chain op_le op_le (pv 1) (pv 0) (pv 2)))))), ?_⟩
    refine ⟨_, rfl, .int v, .ty "int", _, _, true, rfl, .ty _, .base (.int v), kit_ty (by decide +kernel), true, rfl, iteT ?_⟩
    refine ⟨_, rfl, .int v, .ty "bool", _, _, false, rfl, .ty _, .base (.int v), kit_ty (by decide +kernel), false, rfl, true, rfl, iteT ?_⟩
    refine ⟨_, rfl, _, rfl, lo, v, rfl, rfl, decide (lo ≤ v), rfl, ?_⟩
    rw [decide_eq_true h1]
    refine iteT ⟨_, rfl, v, hi, rfl, rfl, ?_⟩
    show Q (.bl (decide (v ≤ hi))) H
    rw [decide_eq_true h2]
    exact q
end
end LT
namespace LT
open PySem PySem.Spec PyProof.Rows L2
/-! ### texts that are words; options; machines -/
def okW (z : Str) : Prop := 1 ≤ z.length ∧ z.length ≤ 8 ∧ ∀ c ∈ z.cps.toList, c ∈ ("abcdefghijklmnopqrstuvwxyz" : Str).cps.toList
def GoodW (v : V) : Prop := v = .non ∨ ∃ z, v = .str z ∧ okW z
/-- an option: its tuple, the state it leads to, its word -/
abbrev Opt : Type := Addr × (Int × V)
abbrev Sta : Type := Addr × List Opt
def OptAt (K : PySem.W.Frag) (H : Hp) (o : Opt) : Prop := SqT K H o.1 [.int o.2.1, o.2.2]
def StaAt (K : PySem.W.Frag) (H : Hp) (s : Sta) : Prop := SqT K H s.1 (s.2.map fun o => V.ref o.1) ∧ ∀ o ∈ s.2, OptAt K H o
def MachAt (K : PySem.W.Frag) (H : Hp) (a : Addr) (M : List Sta) : Prop := SqT K H a (M.map fun s => V.ref s.1) ∧ ∀ s ∈ M, StaAt K H s
def GoodO (n : Nat) (o : Opt) : Prop := 0 ≤ o.2.1 ∧ o.2.1 < n ∧ GoodW o.2.2
structure GoodM (M : List Sta) : Prop where
  pos : 1 ≤ M.length
  few : M.length ≤ 5
  opts : ∀ s ∈ M, s.2.length ≤ 6
  good : ∀ s ∈ M, ∀ o ∈ s.2, GoodO M.length o
theorem MachAt.gr {t : Tb} {H H1 : Hp} {K : PySem.W.Frag} {a : Addr} {M : List Sta} (g : Gr t H H1) (h : MachAt K H a M) : MachAt K H1 a M :=
  ⟨g.sqT h.1, fun s hs => ⟨g.sqT (h.2 s hs).1, fun o ho => g.sqT ((h.2 s hs).2 o ho)⟩⟩
section
variable {P : Program} {w : World} {K : PySem.W.Frag} {mg : Str → Option Value} {base : Heap} {t : Tb}
/-! ### need_number -/
abbrev sNeedNumber : Stmt := topS 14
theorem scNeedNumber : FnScope ["value", "low", "high"] ["value", "low", "high"] (defScope sNeedNumber) := ⟨rfl, rfl, rfl, by decide +kernel, rfl, by decide +kernel, by decide +kernel⟩
def spNeed : Sp := fun vs H Q _ => ∃ v lo hi : Int, vs = [.int v, .int lo, .int hi] ∧ lo ≤ v ∧ v ≤ hi ∧ Q .non H
theorem ok_needNumber {c : Value} (F : Df K mg "need_number" sNeedNumber ["value", "low", "high"] [] c) (N : C8.Cal P w K mg base 1 "is_number" spNum []) : C8.Cal P w K mg base 2 "need_number" spNeed [] := by
  refine F.cal (k := 1) scNeedNumber (fun vs H Q E h => ?_) (fun f A outer s H vs Q E hr h => ?_)
  · obtain ⟨v, lo, hi, rfl, _⟩ := h
    rfl
  · obtain ⟨v, lo, hi, rfl, h1, h2, q⟩ := h
    refine ⟨_, pss_one (ps_if (pt_not (pt_val (C8.pe_c N hr (by decide) rfl (pa_cons (pv 0) (pa_cons (pv 1) (pa_cons (pv 2) pa_nil)))))) (pss_one ps_never) pss_nil), ?_⟩
    exact ⟨_, rfl, _, rfl, _, rfl, v, lo, hi, rfl, h1, h2, true, rfl, iteF q⟩
/-! ### is_word -/
abbrev sIsWord : Stmt := topS 15
theorem scIsWord : FnScope ["value", "sign"] ["value"] (defScope sIsWord) := ⟨rfl, rfl, rfl, by decide +kernel, rfl, by decide +kernel, by decide +kernel⟩
def spWord (t : Tb) : Sp := fun vs H Q _ => ∃ z, vs = [.str z] ∧ okW z ∧ TOk t H ∧ ∀ H', Gr t H H' → Q (.bl true) H'
theorem ok_isWord {c PW : Addr} (G : Gb mg) (F : Df K mg "is_word" sIsWord ["value"] [] (.ref c)) (TB : GxR.TabB base mg c PW) (hP : PW ∈ t.gs) : C8.Cal P w K mg base 2 "is_word" (spWord t) [] := by
  refine F.cal (k := 1) scIsWord (fun vs H Q E h => ?_) (fun f A outer s H vs Q E hr h => ?_)
  · obtain ⟨z, rfl, _⟩ := h
    rfl
  · obtain ⟨z, rfl, hz, ht, q⟩ := h
    obtain ⟨t8, g8⟩ := G.letters
    obtain ⟨ta, ga⟩ := G.abc
    refine ⟨_, pss_one (ps_ret (pe_and (pe_callB call_isi rfl G.isi boot_isinstance (pa_cons (pv 0) (pa_cons (pe_bltn (v := .ty "str") rfl G.str boot_str rfl) pa_nil)))
      (pe_and (pe_chain op_le op_le pe_int (pe_callB call_len rfl G.len boot_len (pa_cons (pv 0) pa_nil)) (pe_glob (v := .int 8) rfl g8 ⟨t8, rfl⟩))
        (pe_one (GA.pe_allG (kk := 0) (k := 1) hr rfl G.all boot_all TB rfl scIsWord.nd rfl (GA.genS_by (show GA.genSB (defScope sIsWord) ["value", "sign"] _ "sign" = true by decide +kernel)) (pi_str (pv 0))
          (fun A s H ex code hr2 => pe_cmpR op_in_sign (pv 1) (pe_glob (v := .str "abcdefghijklmnopqrstuvwxyz") rfl ga ⟨ta, rfl⟩) (by with_unfolding_all rfl))))))), ?_⟩
    refine ⟨_, rfl, .str z, .ty "str", _, _, true, rfl, .ty _, .base (.str z), kit_ty (by decide +kernel), true, rfl, iteT ?_⟩
    refine ⟨.str z, rfl, .str z, _, rfl, ⟨by have := hz.2.1; exact Nat.le_trans this (by decide), rfl⟩, 1, (z.length : Int), rfl, rfl, _, rfl, ?_⟩
    rw [decide_eq_true (show (1 : Int) ≤ z.length by have := hz.1; omega)]
    refine iteT ⟨z.length, 8, rfl, rfl, decide ((z.length : Int) ≤ 8), rfl, ?_⟩
    rw [decide_eq_true (show (z.length : Int) ≤ 8 by have := hz.2.1; omega)]
    refine iteT ⟨.str z, rfl, z, rfl, ht.g PW hP, fun H2 hT => ?_⟩
    have g2 : Gr t H H2 := ht.tabbed hP hT
    refine ⟨_, ⟨z.cps.size, by rw [Nat.zero_add], g2⟩, turns_str (fun H' => Gr t H H') (fun i c H' hc g => ?_) fun H' g => q H' g⟩
    refine ⟨.str ⟨#[c]⟩, rfl, c, _, rfl, rfl, _, rfl, ?_⟩
    rw [decide_eq_true (hz.2.2 c (Array.mem_toList_iff.mpr (Array.mem_of_getElem? hc)))]
    exact iteT g
/-! ### is_option -/
abbrev sIsOption : Stmt := topS 16
theorem scIsOption : FnScope ["value", "many"] ["value", "many"] (defScope sIsOption) := ⟨rfl, rfl, rfl, by decide +kernel, rfl, by decide +kernel, by decide +kernel⟩
def spOption (K : PySem.W.Frag) (t : Tb) : Sp := fun vs H Q _ => ∃ (o : Opt) (many : Nat), vs = [.ref o.1, .int many] ∧ OptAt K H o ∧ GoodO many o ∧ TOk t H ∧ ∀ H', Gr t H H' → Q (.bl true) H'
theorem ok_isOption {c : Value} (G : Gb mg) (F : Df K mg "is_option" sIsOption ["value", "many"] [] c) (N : C8.Cal P w K mg base 1 "is_number" spNum []) (W : C8.Cal P w K mg base 2 "is_word" (spWord t) []) :
    C8.Cal P w K mg base 3 "is_option" (spOption K t) [] := by
  refine F.cal (k := 2) scIsOption (fun vs H Q E h => ?_) (fun f A outer s H vs Q E hr h => ?_)
  · obtain ⟨o, m, rfl, _⟩ := h
    rfl
  · obtain ⟨⟨a, j, wd⟩, m, rfl, ho, ⟨h1, h2, hw⟩, ht, q⟩ := h
    have hs : SqT K H a [.int j, wd] := ho
    refine ⟨_, pss_cons (ps_if (PW.pt (pw_or (pt_not (pt_val (pe_callB call_isi rfl G.isi boot_isinstance (pa_cons (pv 0) (pa_cons (pe_bltn (v := .ty "tuple") rfl G.tuple boot_tuple rfl) pa_nil)))))
        (pw_or (pt_cmpR op_ne (pe_callB call_len_seq rfl G.len boot_len (pa_cons (pv 0) pa_nil)) pe_int (nomark _))
          (pw_or1 (pt_not (pt_val (C8.pe_c N hr (by decide) rfl (pa_cons (pe_ix ix_tup (pv 0) pe_int (fun _ _ => rfl)) (pa_cons pe_int (pa_cons (pe_op op_sub (pv 1) pe_int) pa_nil)))))))))) pss_never pss_nil)
      (pss_one (ps_ret (pe_or (pe_cmp (pc_isN (pe_ix ix_tup (pv 0) pe_int (fun _ _ => rfl)))) (pe_one (C8.pe_c W hr (by decide) rfl (pa_cons (pe_ix ix_tup (pv 0) pe_int (fun _ _ => rfl)) pa_nil)))))), ?_⟩
    refine ⟨_, rfl, .ref a, .ty "tuple", _, _, true, rfl, .ty _, sqT_ty hs, kit_ty (by decide +kernel), true, rfl, iteF ?_⟩
    refine ⟨_, rfl, a, _, rfl, .inr hs, rfl, _, rfl, iteF ?_⟩
    refine ⟨_, rfl, a, _, 0, .int j, rfl, rfl, hs, atI_nat (j := 0) rfl, _, rfl, m, 1, rfl, rfl, ?_⟩
    refine ⟨j, 0, m - 1, rfl, h1, by have : j < (m : Int) := h2; omega, true, rfl, iteF ?_⟩
    refine ⟨_, rfl, a, _, 1, wd, rfl, rfl, hs, atI_nat (j := 1) rfl, ?_⟩
    rcases hw with e | ⟨z, e, hz⟩
    · have e : wd = .non := e
      subst e
      exact ⟨_, rfl, iteT (q H ht.gr)⟩
    · have e : wd = .str z := e
      subst e
      refine ⟨_, rfl, iteF ?_⟩
      exact ⟨_, rfl, a, _, 1, .str z, rfl, rfl, hs, atI_nat (j := 1) rfl, z, rfl, hz, ht, q⟩
/-! ### need_machine -/
abbrev sNeedMachine : Stmt := topS 17
theorem scNeedMachine : FnScope ["value", "index", "state", "option"] ["value"] (defScope sNeedMachine) := ⟨rfl, rfl, rfl, by decide +kernel, rfl, by decide +kernel, by decide +kernel⟩
def spNeedMachine (K : PySem.W.Frag) (t : Tb) : Sp := fun vs H Q _ => ∃ (a : Addr) (M : List Sta), vs = [.ref a] ∧ MachAt K H a M ∧ GoodM M ∧ TOk t H ∧ ∀ H', Gr t H H' → Q .non H'
theorem ok_needMachine {c PM : Addr} (G : Gb mg) (F : Df K mg "need_machine" sNeedMachine ["value"] [] (.ref c)) (TB : GxR.TabB base mg c PM) (hP : PM ∈ t.gs) (O : C8.Cal P w K mg base 3 "is_option" (spOption K t) []) :
    C8.Cal P w K mg base 5 "need_machine" (spNeedMachine K t) [] := by
  refine F.cal (k := 4) scNeedMachine (fun vs H Q E h => ?_) (fun f A outer s H vs Q E hr h => ?_)
  · obtain ⟨a, M, rfl, _⟩ := h
    rfl
  · obtain ⟨a, M, rfl, hM, gM, ht, q⟩ := h
    obtain ⟨t40, g40⟩ := G.states
    obtain ⟨t6, g6⟩ := G.options
    refine ⟨_, pss_cons (ps_if (PW.pt (pw_or (pt_not (pt_val (pe_callB call_isi rfl G.isi boot_isinstance (pa_cons (pv 0) (pa_cons (pe_bltn (v := .ty "tuple") rfl G.tuple boot_tuple rfl) pa_nil)))))
        (pw_or1 (pt_not (pt_chain op_le op_le pe_int (pe_callB call_len_seq rfl G.len boot_len (pa_cons (pv 0) pa_nil)) (pe_glob (v := .int 40) rfl g40 ⟨t40, rfl⟩)))))) pss_never pss_nil)
      (pss_one (ps_for PassesOwn.never rfl (GO.pi_enumT rfl G.enum (pa_cons (pv 0) pa_nil)) (pg_tup rfl (pgs_cons (pg_name (i := 1) scNeedMachine.nd rfl (.inl rfl)) (pgs_cons (pg_name (i := 2) scNeedMachine.nd rfl (.inl rfl)) pgs_nil)))
        (pss_cons (ps_if (PW.pt (pw_or (pt_not (pt_val (pe_callB call_isi rfl G.isi boot_isinstance (pa_cons (pv 2) (pa_cons (pe_bltn (v := .ty "tuple") rfl G.tuple boot_tuple rfl) pa_nil)))))
            (pw_or1 (pt_cmpR op_gt (pe_callB call_len_seq rfl G.len boot_len (pa_cons (pv 2) pa_nil)) (pe_glob (v := .int 6) rfl g6 ⟨t6, rfl⟩) (nomark _))))) pss_never pss_nil)
          (pss_one (ps_if (pt_not (pt_val (GA.pe_allG (kk := 3) (k := 3) hr rfl G.all boot_all TB rfl scNeedMachine.nd rfl (GA.genS_by (show GA.genSB (defScope sNeedMachine) ["value", "index", "state", "option"] _ "option" = true by decide +kernel)) (pi_tup (pv 2))
            (fun A s H ex code hr2 => C8.pe_c O hr2 (by decide) rfl (pa_cons (pv 3) (pa_cons (pe_callB (call_lenK K rfl) rfl G.len boot_len (pa_cons (pv 0) pa_nil)) pa_nil)))))) pss_never pss_nil))))), ?_⟩
    have hl : (M.map fun s => V.ref s.1).length = M.length := List.length_map ..
    refine ⟨_, rfl, .ref a, .ty "tuple", _, _, true, rfl, .ty _, sqT_ty hM.1, kit_ty (by decide +kernel), true, rfl, iteF ?_⟩
    refine ⟨_, rfl, a, _, rfl, .inr hM.1, 1, M.length, rfl, by rw [hl], _, rfl, ?_⟩
    rw [decide_eq_true (show (1 : Int) ≤ M.length by have := gM.pos; omega)]
    refine iteT ⟨M.length, 40, by rw [hl], rfl, decide ((M.length : Int) ≤ 40), rfl, ?_⟩
    rw [decide_eq_true (show (M.length : Int) ≤ 40 by have := gM.few; omega)]
    refine iteF ?_
    refine ⟨_, rfl, a, M.map fun (s : Sta) => V.ref s.1, rfl, hM.1, ?_⟩
    refine for_it GO.walk_enumT (fun i σ H' => ∃ y1 y2, σ = [some (.ref a), y1, y2, none] ∧ Gr t H H') ⟨none, none, rfl, ht.gr⟩ (fun i σ H' _ hv => hv.choose_spec.choose_spec.2.sqT hM.1) (fun i x σ H1 H2 hi hv hy => ?_) (fun σ H' hv => ?_)
    · obtain ⟨y1, y2, rfl, g⟩ := hv
      obtain ⟨T, x1, x2, rfl, nT, rfl, e1, e2⟩ := hy
      have e1 : x1 = .int (i : Nat) := (Option.some.inj e1).symm
      subst e1
      rw [hl] at hi
      have hm : M[i] ∈ M := List.getElem_mem hi
      obtain rfl : V.ref M[i].1 = x2 := by
        have e2 : (M.map fun s => V.ref s.1)[i]? = some x2 := e2
        rw [List.getElem?_map, List.getElem?_eq_getElem hi] at e2
        exact Option.some.inj e2
      have g1 : Gr t H (upd H1 T (.tup [.int (i : Nat), .ref M[i].1])) := g.new nT
      have hS := (hM.gr g1).2 _ hm
      have hl2 : (M[i].2.map fun o => V.ref o.1).length = M[i].2.length := List.length_map ..
      have h6 : ((M[i].2.map fun o => V.ref o.1).length : Int) ≤ 6 := by have := gM.opts _ hm; omega
      refine ⟨T, _, rfl, sqT_fun upd_same, rfl, _, _, rfl, _, _, rfl, rfl, ?_⟩
      refine ⟨_, rfl, .ref M[i].1, .ty "tuple", _, _, true, rfl, .ty _, sqT_ty hS.1, kit_ty (by decide +kernel), true, rfl, iteF ?_⟩
      refine ⟨_, rfl, M[i].1, _, rfl, .inr hS.1, _, 6, rfl, rfl, _, rfl, ?_⟩
      rw [decide_eq_false (show ¬ (6 : Int) < _ by omega)]
      refine iteF ?_
      refine ⟨_, rfl, M[i].1, rfl, ⟨_, hS.1⟩, g1.ok.g PM hP, fun H2 hT => ?_⟩
      have g2 : Gr t H H2 := g1.trans (g1.ok.tabbed hP hT)
      refine ⟨_, ⟨(M[i].2.map fun o => V.ref o.1).length, by rw [Nat.zero_add], g2⟩, turns_tup (fun H' => Gr t H H') (fun H' g' => g'.sqT (hM.2 _ hm).1) (fun j x H' hx g' => ?_) (fun H' g' => ⟨true, rfl, iteF ⟨_, _, rfl, g'⟩⟩)⟩
      rw [List.getElem?_map] at hx
      cases ho : M[i].2[j]? with
      | none =>
        rw [ho] at hx
        cases hx
      | some o =>
        rw [ho] at hx
        obtain rfl : V.ref o.1 = x := Option.some.inj hx
        have mo : o ∈ M[i].2 := List.mem_of_getElem? ho
        have hM' := hM.gr g'
        refine ⟨_, rfl, _, rfl, a, _, rfl, .inr hM'.1, o, M.length, by rw [hl] <;> rfl, (hM'.2 _ hm).2 o mo, gM.good _ hm o mo, g'.ok, fun H3 g3 => ⟨true, rfl, iteT (g'.trans g3)⟩⟩
    · obtain ⟨y1, y2, rfl, g⟩ := hv
      exact q H' g
/-! ### states_that_come -/
theorem nodup_leN : ∀ (l D : List Nat), l.Nodup → (∀ x ∈ l, x ∈ D) → l.length ≤ D.length
  | [], _, _, _ => Nat.zero_le _
  | a :: l, D, hn, hs => by
    have ha : a ∈ D := hs a List.mem_cons_self
    have h1 := nodup_leN l (D.erase a) (List.nodup_cons.mp hn).2 fun x hx => (List.mem_erase_of_ne fun e => (List.nodup_cons.mp hn).1 (by rw [← e]; exact hx)).mpr (hs x (List.mem_cons_of_mem _ hx))
    have h2 := List.length_erase_of_mem ha
    have h3 : 0 < D.length := List.length_pos_of_mem ha
    rw [List.length_cons]
    omega
theorem nodup_lt {l : List Nat} {n : Nat} (hn : l.Nodup) (hs : ∀ x ∈ l, x < n) : l.length ≤ n := by
  have h := nodup_leN l (List.range n) hn fun x hx => List.mem_range.mpr (hs x hx)
  rw [List.length_range] at h
  exact h
abbrev vN (fs : List Nat) : List V := fs.map fun i => V.int (i : Nat)
theorem vN_app (fs : List Nat) (j : Nat) : vN (fs ++ [j]) = vN fs ++ [.int (j : Nat)] := List.map_append
theorem vN_flat (fs : List Nat) : (vN fs).all flatV = true := List.all_eq_true.mpr fun v hv => by
  obtain ⟨i, _, rfl⟩ := List.mem_map.mp hv
  rfl
theorem vN_in {fs : List Nat} {j : Nat} (h : inV (.int (j : Nat)) (vN fs) = false) : j ∉ fs := fun hj => by
  have h1 : inV (.int (j : Nat)) (vN fs) = true := List.any_eq_true.mpr ⟨.int (j : Nat), List.mem_map.mpr ⟨j, hj, rfl⟩, by show ((j : Int) == (j : Int)) = true; simp⟩
  rw [h] at h1
  cases h1
abbrev sCome : Stmt := topS 18
theorem scCome : FnScope ["machine", "found", "at", "after", "_"] ["machine"] (defScope sCome) := ⟨rfl, rfl, rfl, by decide +kernel, rfl, by decide +kernel, by decide +kernel⟩
def spCome (K : PySem.W.Frag) (t : Tb) : Sp := fun vs H Q _ => ∃ (a : Addr) (M : List Sta), vs = [.ref a] ∧ MachAt K H a M ∧ GoodM M ∧ TOk t H ∧ ∀ (H' : Hp) (p : Addr) (fs : List Nat), Gr t H H' → H' p = some (.lst (vN fs)) → (∀ x ∈ fs, x < M.length) → Q (.ref p) H'
theorem ok_come {c : Value} (G : Gb mg) (F : Df K mg "states_that_come" sCome ["machine"] [] c) : C8.Cal P w K mg base 1 "states_that_come" (spCome K t) [] := by
  refine F.cal (k := 0) scCome (fun vs H Q E h => ?_) (fun f A outer s H vs Q E hr h => ?_)
  · obtain ⟨a, M, rfl, _⟩ := h
    rfl
  · obtain ⟨a, M, rfl, hM, gM, ht, q⟩ := h
    refine ⟨_, pss_cons (ps_par (i := 1) (j := 2) rfl scCome.nd rfl rfl (by decide) rfl rfl (pa_cons (pe_lst (pa_cons pe_int pa_nil)) (pa_cons pe_int pa_nil)) rfl)
      (pss_cons (ps_while PassesOwn.never (pt_cmpR op_lt (pv 2) (pe_callB call_len_seq rfl G.len boot_len (pa_cons (pv 1) pa_nil)) (nomark _))
        (pss_cons (ps_for PassesOwn.never rfl (pi_tup (pe_ix ix_tup (pv 0) (pe_ix ix_list (pv 1) (pv 2) (fun _ _ => rfl)) (fun _ _ => rfl)))
            (pg_tup rfl (pgs_cons (pg_name (i := 3) scCome.nd rfl (.inl rfl)) (pgs_cons (pg_name (i := 4) scCome.nd rfl (.inl rfl)) pgs_nil)))
            (pss_one (ps_if (pt_cmpR op_notIn_seq (pv 3) (pv 1) (by with_unfolding_all rfl))
              (pss_one (ps_expr (pe_bm PySem.F.plainAttrs_list PySem.F.slot_list_append PySem.F.type_list_append mt_append (pv 1) (pa_cons (pv 3) pa_nil)))) pss_nil)))
          (pss_one (ps_aug (i := 2) scCome.nd rfl (.inl rfl) pe_int ip_add))))
        (pss_one (ps_ret (pe_callB cr_sorted rfl G.sorted boot_sorted (pa_cons (pv 1) pa_nil))))), ?_⟩
    have hMl : (M.map fun s => V.ref s.1).length = M.length := List.length_map ..
    refine ⟨by decide, fun l nl => ⟨_, _, rfl, ?_⟩⟩
    refine ⟨fun m σ H' => ∃ (fs : List Nat) (k : Nat) (y3 y4 : Option V), σ = [some (.ref a), some (.ref l), some (.int (k : Nat)), y3, y4] ∧ Gr t H H' ∧ H' l = some (.lst (vN fs)) ∧ fs.Nodup ∧ (∀ x ∈ fs, x < M.length) ∧ k ≤ fs.length ∧ k + m = M.length,
      ⟨M.length, [0], 0, none, none, rfl, ht.gr.new nl, upd_same, by decide, fun x hx => by
        rw [List.mem_singleton.mp hx]
        exact gM.pos, by decide, by omega⟩, fun m σ H' hW => ?_⟩
    obtain ⟨fs, k, y3, y4, rfl, g, el, nd, hb, hk, hm⟩ := hW
    have hle := nodup_lt nd hb
    refine ⟨_, rfl, _, rfl, l, _, rfl, .inl (.inl (.inl el)), k, ((vN fs).length : Nat), rfl, rfl, _, rfl, ite2 (fun hlt => ?_) (fun hnl => ?_)⟩
    · have hlt : (k : Int) < ((vN fs).length : Nat) := of_decide_eq_true hlt
      have hlen : (vN fs).length = fs.length := List.length_map ..
      have hkl : k < fs.length := by omega
      refine ⟨fun σ' H2 => ∃ (fs : List Nat) (y3 y4 : Option V), σ' = [some (.ref a), some (.ref l), some (.int ((k + 1 : Nat) : Nat)), y3, y4] ∧ Gr t H H2 ∧ H2 l = some (.lst (vN fs)) ∧ fs.Nodup ∧ (∀ x ∈ fs, x < M.length) ∧ k + 1 ≤ fs.length,
        fun σ' H2 hN => ?_, ?_⟩
      · obtain ⟨fs', y3', y4', rfl, g', el', nd', hb', hk'⟩ := hN
        exact ⟨m - 1, by omega, fs', k + 1, y3', y4', rfl, g', el', nd', hb', hk', by omega⟩
      · have ef : (vN fs)[k]? = some (.int (fs[k] : Nat)) := by
          rw [List.getElem?_map, List.getElem?_eq_getElem hkl] <;> rfl
        have hfk : fs[k] < M.length := hb _ (List.getElem_mem hkl)
        have em : (M.map fun (s : Sta) => V.ref s.1)[fs[k]]? = some (.ref M[fs[k]].1) := by
          rw [List.getElem?_map, List.getElem?_eq_getElem hfk] <;> rfl
        have mm : M[fs[k]] ∈ M := List.getElem_mem hfk
        refine ⟨_, rfl, _, rfl, _, rfl, l, _, k, _, rfl, rfl, .inl (.inl el), atI_nat ef, a, _, fs[k], _, rfl, rfl, (hM.gr g).1, atI_nat em, M[fs[k]].1, rfl, ⟨_, ((hM.gr g).2 _ mm).1⟩, ?_⟩
        refine for_tup (xs := M[fs[k]].2.map fun (o : Opt) => V.ref o.1) (fun i σ' H2 => ∃ (fs : List Nat) (y3 y4 : Option V), σ' = [some (.ref a), some (.ref l), some (.int (k : Nat)), y3, y4] ∧ Gr t H H2 ∧ H2 l = some (.lst (vN fs)) ∧ fs.Nodup ∧ (∀ x ∈ fs, x < M.length) ∧ k + 1 ≤ fs.length)
          ⟨fs, y3, y4, rfl, g, el, nd, hb, hkl⟩ (fun i σ' H2 _ hv => ?_) (fun i x σ' H2 hx hv => ?_) (fun σ' H2 hv => ?_)
        · obtain ⟨_, _, _, _, g', _⟩ := hv
          exact g'.sqT (hM.2 _ mm).1
        · obtain ⟨fs', y3', y4', rfl, g', el', nd', hb', hk'⟩ := hv
          rw [List.getElem?_map] at hx
          cases ho : M[fs[k]].2[i]? with
          | none =>
            rw [ho] at hx
            cases hx
          | some o =>
            rw [ho] at hx
            obtain rfl : V.ref o.1 = x := Option.some.inj hx
            have mo : o ∈ M[fs[k]].2 := List.mem_of_getElem? ho
            have hO := ((hM.gr g').2 _ mm).2 o mo
            obtain ⟨o1, o2, _⟩ := gM.good _ mm o mo
            obtain ⟨j, ej⟩ := Int.eq_ofNat_of_zero_le o1
            refine ⟨o.1, _, rfl, hO, rfl, _, _, rfl, _, _, rfl, rfl, ?_⟩
            refine ⟨_, rfl, _, rfl, l, _, rfl, .inl (.inl (.inl el')), rfl, vN_flat _, _, rfl, ite2 (fun hin => ?_) (fun _ => ?_)⟩
            · refine ⟨.ref l, rfl, .inl ⟨rfl, _, .inl (.inl el')⟩, .int o.2.1, rfl, l, _, _, rfl, rfl, el', ?_, ?_⟩
              · have := nodup_lt nd' hb'
                have := gM.few
                exact small1000 (by rw [List.length_map]; omega)
              · have hin : (!inV (.int o.2.1) (vN fs')) = true := hin
                rw [ej] at hin
                have hj : j ∉ fs' := vN_in (by simpa using hin)
                refine ⟨fs' ++ [j], _, _, rfl, g'.mut nl el', ?_, ?_, fun x hx => ?_, by rw [List.length_append]; omega⟩
                · rw [upd_same]
                  show some (HO.lst (vN fs' ++ [.int o.2.1])) = some (HO.lst (vN (fs' ++ [j])))
                  rw [ej, vN_app]
                · refine List.nodup_append.mpr ⟨nd', by simp, fun x hx y hy => ?_⟩
                  rw [List.mem_singleton.mp hy]
                  intro z
                  rw [z] at hx
                  exact hj hx
                · rcases List.mem_append.mp hx with z | z
                  · exact hb' x z
                  · rw [List.mem_singleton.mp z]
                    have : o.2.1 < (M.length : Int) := o2
                    omega
            · exact ⟨fs', _, _, rfl, g', el', nd', hb', hk'⟩
        · obtain ⟨fs', y3', y4', rfl, g', el', nd', hb', hk'⟩ := hv
          exact ⟨_, rfl, k, 1, rfl, rfl, fs', y3', y4', rfl, g', el', nd', hb', hk'⟩
    · have hsm : fs.length < 64 := by have := gM.few; omega
      have em : (vN fs) = (fs.map fun (i : Nat) => (i : Int)).map V.int := by
        rw [List.map_map] <;> rfl
      refine ⟨_, rfl, l, fs.map fun (i : Nat) => (i : Int), rfl, .inl (.inl (by rw [← em]; exact el)), by rw [List.length_map]; exact hsm, fun ns' p pm _ np => ?_⟩
      have hns : ∀ z ∈ ns', ∃ x : Nat, z = (x : Int) ∧ x < M.length := fun z hz => by
        obtain ⟨x, hx, rfl⟩ := List.mem_map.mp (pm.mem_iff.mp hz)
        exact ⟨x, rfl, hb x hx⟩
      refine q _ p (ns'.map Int.toNat) (g.new np) ?_ (fun x hx => ?_)
      · rw [upd_same]
        congr 2
        show ns'.map V.int = (ns'.map Int.toNat).map fun i => V.int (i : Nat)
        rw [List.map_map]
        refine List.map_congr_left fun z hz => ?_
        obtain ⟨x, rfl, _⟩ := hns z hz
        rfl
      · obtain ⟨z, hz, rfl⟩ := List.mem_map.mp hx
        obtain ⟨x, rfl, h⟩ := hns z hz
        exact h
end
end LT

set_option Elab.async false
set_option linter.all false
set_option maxRecDepth 100000
set_option maxHeartbeats 4000000
/-! the defs of onelife.tables -/
namespace LT
open PySem PySem.Spec PyProof.Rows L2
/-! ### rows as data -/
def dR (xs : List Int) : PyData := .tuple (xs.map PyData.int)
theorem dp_ints {K : PySem.W.Frag} {H : Hp} : ∀ xs : List Int, DpAll K H (xs.map V.int) (xs.map PyData.int)
  | [] => .nil
  | x :: xs => .cons (.int x) (dp_ints xs)
theorem dp_row {K : PySem.W.Frag} {H : Hp} {a : Addr} {xs : List Int} (h : SqT K H a (xs.map V.int)) : Dp K H (.ref a) (dR xs) := .tup h (dp_ints xs)
theorem lay_ints : ∀ xs : List Int, PyData.canLayAll0 (xs.map PyData.int) = true
  | [] => by simp [PyData.canLayAll0]
  | x :: xs => by
    have h := lay_ints xs
    simp only [List.map_cons, PyData.canLayAll0, PyData.canLay0, h, Bool.and_self]
theorem deep_ints : ∀ xs : List Int, PyData.depthAll (xs.map PyData.int) = 0
  | [] => by simp [PyData.depthAll]
  | x :: xs => by
    have h := deep_ints xs
    simp only [List.map_cons, PyData.depthAll, PyData.depth, h, Nat.max_self]
theorem lay_row (xs : List Int) : PyData.canLay0 (dR xs) = true := by
  have h := lay_ints xs
  simp only [dR, PyData.canLay0, h]
theorem deep_row (xs : List Int) : PyData.depth (dR xs) = 1 := by
  have h := deep_ints xs
  simp only [dR, PyData.depth, h]
theorem shaped_row (xs : List Int) : SeqAt.shaped (dR xs) = true := by
  unfold SeqAt.shaped
  rw [lay_row, deep_row] <;> rfl
theorem lay_rows : ∀ rs : List (List Int), PyData.canLayAll0 (rs.map dR) = true
  | [] => by simp [PyData.canLayAll0]
  | r :: rs => by
    have h := lay_rows rs
    simp only [List.map_cons, PyData.canLayAll0, lay_row, h, Bool.and_self]
theorem deep_rows : ∀ rs : List (List Int), PyData.depthAll (rs.map dR) ≤ 1
  | [] => by simp [PyData.depthAll]
  | r :: rs => by
    have h := deep_rows rs
    simp only [List.map_cons, PyData.depthAll, deep_row]
    omega
theorem shaped_rowsT (rs : List (List Int)) : SeqAt.shaped (.tuple (rs.map dR)) = true := by
  have h := deep_rows rs
  have h2 := lay_rows rs
  have h3 : PyData.depth (.tuple (rs.map dR)) ≤ 64 := by
    simp only [PyData.depth]
    omega
  have h4 : PyData.canLay0 (.tuple (rs.map dR)) = true := by simp only [PyData.canLay0, h2]
  unfold SeqAt.shaped
  rw [h4, decide_eq_true h3] <;> rfl
theorem shaped_rowsL (rs : List (List Int)) : SeqAt.shaped (.list (rs.map dR)) = true := by
  have h := deep_rows rs
  have h2 := lay_rows rs
  have h3 : PyData.depth (.list (rs.map dR)) ≤ 64 := by
    simp only [PyData.depth]
    omega
  have h4 : PyData.canLay0 (.list (rs.map dR)) = true := by simp only [PyData.canLay0, h2]
  unfold SeqAt.shaped
  rw [h4, decide_eq_true h3] <;> rfl
theorem eqv_ints : ∀ xs ys : List Int, PyData.eqvAll (xs.map PyData.int) (ys.map PyData.int) = decide (xs = ys)
  | [], [] => by simp [PyData.eqvAll]
  | [], y :: ys => by simp [PyData.eqvAll]
  | x :: xs, [] => by simp [PyData.eqvAll]
  | x :: xs, y :: ys => by
    have h := eqv_ints xs ys
    simp only [List.map_cons, PyData.eqvAll, PyData.eqv, h]
    by_cases e : x = y
    · by_cases e2 : xs = ys <;> simp [e, e2]
    · simp [e]
theorem eqv_row (xs ys : List Int) : PyData.eqv (dR xs) (dR ys) = decide (xs = ys) := by
  have h := eqv_ints xs ys
  simp only [dR, PyData.eqv, h]
theorem eqv_rows : ∀ rs : List (List Int), PyData.eqvAll (rs.map dR) (rs.map dR) = true
  | [] => by simp [PyData.eqvAll]
  | r :: rs => by
    have h := eqv_rows rs
    simp only [List.map_cons, PyData.eqvAll, eqv_row, h, decide_true, Bool.and_self]
/-! ### tables on the heap -/
abbrev Rw : Type := Addr × List Int
abbrev Rs : Type := Addr × List Rw
def RowAt (K : PySem.W.Frag) (H : Hp) (r : Rw) : Prop := SqT K H r.1 (r.2.map V.int)
def RsAt (K : PySem.W.Frag) (H : Hp) (s : Rs) : Prop := SqT K H s.1 (s.2.map fun r => V.ref r.1) ∧ ∀ r ∈ s.2, RowAt K H r
def TabAt (K : PySem.W.Frag) (H : Hp) (a : Addr) (T : List Rs) : Prop := SqT K H a (T.map fun s => V.ref s.1) ∧ ∀ s ∈ T, RsAt K H s
theorem dp_rows {K : PySem.W.Frag} {H : Hp} : ∀ rs : List Rw, (∀ r ∈ rs, RowAt K H r) → DpAll K H (rs.map fun r => V.ref r.1) ((rs.map (·.2)).map dR)
  | [], _ => .nil
  | r :: rs, h => .cons (dp_row (h r List.mem_cons_self)) (dp_rows rs fun r' hr => h r' (List.mem_cons_of_mem _ hr))
theorem RsAt.gr {t : Tb} {H H1 : Hp} {K : PySem.W.Frag} {s : Rs} (g : Gr t H H1) (h : RsAt K H s) : RsAt K H1 s := ⟨g.sqT h.1, fun r hr => g.sqT (h.2 r hr)⟩
theorem TabAt.gr {t : Tb} {H H1 : Hp} {K : PySem.W.Frag} {a : Addr} {T : List Rs} (g : Gr t H H1) (h : TabAt K H a T) : TabAt K H1 a T := ⟨g.sqT h.1, fun s hs => (h.2 s hs).gr g⟩
structure GoodR (m : Nat) (r : List Int) : Prop where
  pos : 1 ≤ r.length
  few : r.length ≤ 8
  good : ∀ x ∈ r, 0 ≤ x ∧ x < m
/-- rows of one length, no two alike -/
structure GoodS (m : Nat) (s : Rs) : Prop where
  rows : ∀ r ∈ s.2, GoodR m r.2
  len : ∃ L, ∀ r ∈ s.2, r.2.length = L
  nod : (s.2.map (·.2)).Nodup
  few : s.2.length ≤ 6
structure GoodT (m : Nat) (M : List Sta) (T : List Rs) : Prop where
  len : T.length = M.length
  each : ∀ (i : Nat) (s : Sta) (u : Rs), M[i]? = some s → T[i]? = some u → u.2.length = s.2.length
  good : ∀ u ∈ T, GoodS m u
section
variable {P : Program} {w : World} {K : PySem.W.Frag} {mg : Str → Option Value} {base : Heap} {t : Tb}
/-! ### need_marks -/
abbrev sNeedMarks : Stmt := topS 22
theorem scNeedMarks : FnScope ["value"] ["value"] (defScope sNeedMarks) := ⟨rfl, rfl, rfl, by decide +kernel, rfl, by decide +kernel, by decide +kernel⟩
def spMarks : Sp := fun vs H Q _ => ∃ m : Nat, vs = [.int (m : Nat)] ∧ 1 ≤ m ∧ m ≤ 4 ∧ Q .non H
theorem ok_needMarks {c : Value} (G : Gb mg) (F : Df K mg "need_marks" sNeedMarks ["value"] [] c) (N : C8.Cal P w K mg base 1 "is_number" spNum []) : C8.Cal P w K mg base 2 "need_marks" spMarks [] := by
  refine F.cal (k := 1) scNeedMarks (fun vs H Q E h => ?_) (fun f A outer s H vs Q E hr h => ?_)
  · obtain ⟨v, rfl, _⟩ := h
    rfl
  · obtain ⟨m, rfl, h1, h2, q⟩ := h
    obtain ⟨t4, g4⟩ := G.marks
    refine ⟨_, pss_one (ps_if (pt_not (pt_val (C8.pe_c N hr (by decide) rfl (pa_cons (pv 0) (pa_cons pe_int (pa_cons (pe_glob (v := .int 4) rfl g4 ⟨t4, rfl⟩) pa_nil)))))) pss_never pss_nil), ?_⟩
    exact ⟨_, rfl, m, 1, 4, rfl, by omega, by omega, true, rfl, iteF q⟩
/-! ### is_row -/
abbrev sIsRow : Stmt := topS 23
theorem scIsRow : FnScope ["value", "marks", "most", "mark"] ["value", "marks", "most"] (defScope sIsRow) := ⟨rfl, rfl, rfl, by decide +kernel, rfl, by decide +kernel, by decide +kernel⟩
def spRow (K : PySem.W.Frag) (t : Tb) : Sp := fun vs H Q _ => ∃ (r : Rw) (m : Nat), vs = [.ref r.1, .int (m : Nat), .int 8] ∧ RowAt K H r ∧ GoodR m r.2 ∧ TOk t H ∧ ∀ H', Gr t H H' → Q (.bl true) H'
theorem ok_isRow {c PR : Addr} (G : Gb mg) (F : Df K mg "is_row" sIsRow ["value", "marks", "most"] [.int 8] (.ref c)) (TB : GxR.TabB base mg c PR) (hP : PR ∈ t.gs) (N : C8.Cal P w K mg base 1 "is_number" spNum []) : C8.Cal P w K mg base 3 "is_row" (spRow K t) [.int 8] := by
  refine F.cal (k := 2) scIsRow (fun vs H Q E h => ?_) (fun f A outer s H vs Q E hr h => ?_)
  · obtain ⟨r, m, rfl, _⟩ := h
    rfl
  · obtain ⟨r, m, rfl, hR, gR, ht, q⟩ := h
    have hR' : SqT K H r.1 (r.2.map V.int) := hR
    refine ⟨_, pss_cons (ps_if (PW.pt (pw_or (pt_not (pt_val (pe_callB call_isi rfl G.isi boot_isinstance (pa_cons (pv 0) (pa_cons (pe_bltn (v := .ty "tuple") rfl G.tuple boot_tuple rfl) pa_nil)))))
        (pw_or1 (pt_not (pt_chain op_le op_le pe_int (pe_callB call_len_seq rfl G.len boot_len (pa_cons (pv 0) pa_nil)) (pv 2)))))) pss_never pss_nil)
      (pss_one (ps_ret (GA.pe_allG (kk := 1) (k := 3) hr rfl G.all boot_all TB rfl scIsRow.nd rfl (GA.genS_by (show GA.genSB (defScope sIsRow) ["value", "marks", "most", "mark"] _ "mark" = true by decide +kernel)) (pi_tup (pv 0))
        (fun A s H ex code hr2 => C8.pe_c N hr2 (by decide) rfl (pa_cons (pv 3) (pa_cons pe_int (pa_cons (pe_op op_sub (pv 1) pe_int) pa_nil))))))), ?_⟩
    have hl : (r.2.map V.int).length = r.2.length := List.length_map ..
    refine ⟨_, rfl, .ref r.1, .ty "tuple", _, _, true, rfl, .ty _, sqT_ty hR, kit_ty (by decide +kernel), true, rfl, iteF ?_⟩
    refine ⟨_, rfl, r.1, _, rfl, .inr hR', 1, r.2.length, rfl, by rw [hl], _, rfl, ?_⟩
    rw [decide_eq_true (show (1 : Int) ≤ r.2.length by have := gR.pos; omega)]
    refine iteT ⟨_, rfl, r.2.length, 8, by rw [hl], rfl, decide ((r.2.length : Int) ≤ 8), rfl, ?_⟩
    rw [decide_eq_true (show (r.2.length : Int) ≤ 8 by have := gR.few; omega)]
    refine iteF ?_
    refine ⟨_, rfl, r.1, rfl, ⟨_, hR'⟩, ht.g PR hP, fun H2 hT => ?_⟩
    have g2 : Gr t H H2 := ht.tabbed hP hT
    refine ⟨_, ⟨(r.2.map V.int).length, by rw [Nat.zero_add], g2⟩, turns_tup (fun H' => Gr t H H') (fun H' g' => g'.sqT hR') (fun j x H' hx g' => ?_) (fun H' g' => q H' g')⟩
    rw [List.getElem?_map] at hx
    cases ho : r.2[j]? with
    | none =>
      rw [ho] at hx
      cases hx
    | some i =>
      rw [ho] at hx
      obtain rfl : V.int i = x := Option.some.inj hx
      obtain ⟨h1, h2⟩ := gR.good i (List.mem_of_getElem? ho)
      exact ⟨_, rfl, _, rfl, m, 1, rfl, rfl, i, 0, m - 1, rfl, h1, by omega, true, rfl, iteT g'⟩
/-! ### need_table -/
abbrev sNeedTable : Stmt := topS 24
theorem scNeedTable : FnScope ["machine", "marks", "value", "index", "rows", "row"] ["machine", "marks", "value"] (defScope sNeedTable) := ⟨rfl, rfl, rfl, by decide +kernel, rfl, by decide +kernel, by decide +kernel⟩
def spNeedTable (K : PySem.W.Frag) (t : Tb) : Sp := fun vs H Q _ => ∃ (a b : Addr) (m : Nat) (M : List Sta) (T : List Rs), vs = [.ref a, .int (m : Nat), .ref b] ∧ MachAt K H a M ∧ TabAt K H b T ∧ GoodT m M T ∧ TOk t H ∧ ∀ H', Gr t H H' → Q .non H'
theorem ok_needTable {c PT : Addr} (G : Gb mg) (F : Df K mg "need_table" sNeedTable ["machine", "marks", "value"] [] (.ref c)) (TB : GxR.TabB base mg c PT) (hP : PT ∈ t.gs) (R : C8.Cal P w K mg base 3 "is_row" (spRow K t) [.int 8]) :
    C8.Cal P w K mg base 5 "need_table" (spNeedTable K t) [] := by
  refine F.cal (k := 4) scNeedTable (fun vs H Q E h => ?_) (fun f A outer s H vs Q E hr h => ?_)
  · obtain ⟨a, b, m, M, T, rfl, _⟩ := h
    rfl
  · obtain ⟨a, b, m, M, T, rfl, hM, hT, gT, ht, q⟩ := h
    refine ⟨_, pss_cons (ps_if (PW.pt (pw_or (pt_not (pt_val (pe_callB call_isi rfl G.isi boot_isinstance (pa_cons (pv 2) (pa_cons (pe_bltn (v := .ty "tuple") rfl G.tuple boot_tuple rfl) pa_nil)))))
        (pw_or1 (pt_cmpR op_ne (pe_callB call_len_seq rfl G.len boot_len (pa_cons (pv 2) pa_nil)) (pe_callB call_len_seq rfl G.len boot_len (pa_cons (pv 0) pa_nil)) (nomark _))))) pss_never pss_nil)
      (pss_one (ps_for PassesOwn.never rfl (GO.pi_enumT rfl G.enum (pa_cons (pv 2) pa_nil)) (pg_tup rfl (pgs_cons (pg_name (i := 3) scNeedTable.nd rfl (.inl rfl)) (pgs_cons (pg_name (i := 4) scNeedTable.nd rfl (.inl rfl)) pgs_nil)))
        (pss_cons (ps_if (PW.pt (pw_or (pt_not (pt_val (pe_callB call_isi rfl G.isi boot_isinstance (pa_cons (pv 4) (pa_cons (pe_bltn (v := .ty "tuple") rfl G.tuple boot_tuple rfl) pa_nil)))))
            (pw_or1 (pt_cmpR op_ne (pe_callB call_len_seq rfl G.len boot_len (pa_cons (pv 4) pa_nil)) (pe_callB call_len_seq rfl G.len boot_len (pa_cons (pe_ix ix_tup (pv 0) (pv 3) (fun _ _ => rfl)) pa_nil)) (nomark _))))) pss_never pss_nil)
          (pss_one (ps_if (pt_not (pt_val (GA.pe_allG (kk := 3) (k := 5) hr rfl G.all boot_all TB rfl scNeedTable.nd rfl (GA.genS_by (show GA.genSB (defScope sNeedTable) ["machine", "marks", "value", "index", "rows", "row"] _ "row" = true by decide +kernel)) (pi_tup (pv 4))
            (fun A s H ex code hr2 => C8.pe_c R hr2 (by decide) rfl (pa_cons (pv 5) (pa_cons (pv 1) pa_nil)))))) pss_never pss_nil))))), ?_⟩
    have hlT : (T.map fun (s : Rs) => V.ref s.1).length = T.length := List.length_map ..
    have hlM : (M.map fun (s : Sta) => V.ref s.1).length = M.length := List.length_map ..
    refine ⟨_, rfl, .ref b, .ty "tuple", _, _, true, rfl, .ty _, sqT_ty hT.1, kit_ty (by decide +kernel), true, rfl, iteF ?_⟩
    refine ⟨_, rfl, b, _, rfl, .inr hT.1, _, rfl, a, _, rfl, .inr hM.1, rfl, _, rfl, iteNS ?_ ?_⟩
    · rw [hlT, hlM, gT.len]
    refine ⟨_, rfl, b, T.map fun (s : Rs) => V.ref s.1, rfl, hT.1, ?_⟩
    refine for_it GO.walk_enumT (fun i σ H' => ∃ y1 y2, σ = [some (.ref a), some (.int (m : Nat)), some (.ref b), y1, y2, none] ∧ Gr t H H') ⟨none, none, rfl, ht.gr⟩ (fun i σ H' _ hv => hv.choose_spec.choose_spec.2.sqT hT.1) (fun i x σ H1 H2 hi hv hy => ?_) (fun σ H' hv => ?_)
    · obtain ⟨y1, y2, rfl, g⟩ := hv
      obtain ⟨V0, x1, x2, rfl, nT, rfl, e1, e2⟩ := hy
      have e1 : x1 = .int (i : Nat) := (Option.some.inj e1).symm
      subst e1
      rw [hlT] at hi
      have hiM : i < M.length := by rw [← gT.len]; exact hi
      have hm : T[i] ∈ T := List.getElem_mem hi
      obtain rfl : V.ref T[i].1 = x2 := by
        have e2 : (T.map fun (s : Rs) => V.ref s.1)[i]? = some x2 := e2
        rw [List.getElem?_map, List.getElem?_eq_getElem hi] at e2
        exact Option.some.inj e2
      have eM : (M.map fun (s : Sta) => V.ref s.1)[i]? = some (.ref M[i].1) := by
        rw [List.getElem?_map, List.getElem?_eq_getElem hiM] <;> rfl
      have g1 : Gr t H (upd H1 V0 (.tup [.int (i : Nat), .ref T[i].1])) := g.new nT
      have hS := (hT.gr g1).2 _ hm
      have hM' := hM.gr g1
      have mm : M[i] ∈ M := List.getElem_mem hiM
      have hl2 : (T[i].2.map fun (o : Rw) => V.ref o.1).length = T[i].2.length := List.length_map ..
      have hl3 : (M[i].2.map fun (o : Opt) => V.ref o.1).length = M[i].2.length := List.length_map ..
      refine ⟨V0, _, rfl, sqT_fun upd_same, rfl, _, _, rfl, _, _, rfl, rfl, ?_⟩
      refine ⟨_, rfl, .ref T[i].1, .ty "tuple", _, _, true, rfl, .ty _, sqT_ty hS.1, kit_ty (by decide +kernel), true, rfl, iteF ?_⟩
      refine ⟨_, rfl, T[i].1, _, rfl, .inr hS.1, _, rfl, _, rfl, a, _, i, _, rfl, rfl, hM'.1, atI_nat eM, M[i].1, _, rfl, .inr (hM'.2 _ mm).1, rfl, _, rfl, iteNS ?_ ?_⟩
      · rw [hl2, hl3, gT.each i _ _ (List.getElem?_eq_getElem hiM) (List.getElem?_eq_getElem hi)]
      refine ⟨_, rfl, T[i].1, rfl, ⟨_, hS.1⟩, g1.ok.g PT hP, fun H2 hT2 => ?_⟩
      have g2 : Gr t H H2 := g1.trans (g1.ok.tabbed hP hT2)
      refine ⟨_, ⟨(T[i].2.map fun (o : Rw) => V.ref o.1).length, by rw [Nat.zero_add], g2⟩, turns_tup (fun H' => Gr t H H') (fun H' g' => g'.sqT (hT.2 _ hm).1) (fun j x H' hx g' => ?_) (fun H' g' => ⟨true, rfl, iteF ⟨_, _, rfl, g'⟩⟩)⟩
      rw [List.getElem?_map] at hx
      cases ho : T[i].2[j]? with
      | none =>
        rw [ho] at hx
        cases hx
      | some o =>
        rw [ho] at hx
        obtain rfl : V.ref o.1 = x := Option.some.inj hx
        have mo : o ∈ T[i].2 := List.mem_of_getElem? ho
        exact ⟨_, rfl, _, rfl, o, m, rfl, ((hT.gr g').2 _ hm).2 o mo, (gT.good _ hm).rows o mo, g'.ok, fun H3 g3 => ⟨true, rfl, iteT (g'.trans g3)⟩⟩
    · obtain ⟨y1, y2, rfl, g⟩ := hv
      exact q H' g
/-! ### need_house -/
abbrev sNeedHouse : Stmt := topS 25
theorem scNeedHouse : FnScope ["machine", "marks", "table"] ["machine", "marks", "table"] (defScope sNeedHouse) := ⟨rfl, rfl, rfl, by decide +kernel, rfl, by decide +kernel, by decide +kernel⟩
def spNeedHouse (K : PySem.W.Frag) (t : Tb) : Sp := fun vs H Q _ => ∃ (a b : Addr) (m : Nat) (M : List Sta) (T : List Rs), vs = [.ref a, .int (m : Nat), .ref b] ∧ 1 ≤ m ∧ m ≤ 4 ∧ MachAt K H a M ∧ GoodM M ∧ TabAt K H b T ∧ GoodT m M T ∧ TOk t H ∧ ∀ H', Gr t H H' → Q .non H'
theorem ok_needHouse {c : Value} (F : Df K mg "need_house" sNeedHouse ["machine", "marks", "table"] [] c) (M1 : C8.Cal P w K mg base 5 "need_machine" (spNeedMachine K t) []) (M2 : C8.Cal P w K mg base 2 "need_marks" spMarks []) (M3 : C8.Cal P w K mg base 5 "need_table" (spNeedTable K t) []) :
    C8.Cal P w K mg base 6 "need_house" (spNeedHouse K t) [] := by
  refine F.cal (k := 5) scNeedHouse (fun vs H Q E h => ?_) (fun f A outer s H vs Q E hr h => ?_)
  · obtain ⟨a, b, m, M, T, rfl, _⟩ := h
    rfl
  · obtain ⟨a, b, m, M, T, rfl, h1, h2, hM, gM, hT, gT, ht, q⟩ := h
    refine ⟨_, pss_cons (ps_expr (C8.pe_c M1 hr (by decide) rfl (pa_cons (pv 0) pa_nil))) (pss_cons (ps_expr (C8.pe_c M2 hr (by decide) rfl (pa_cons (pv 1) pa_nil)))
      (pss_one (ps_expr (C8.pe_c M3 hr (by decide) rfl (pa_cons (pv 0) (pa_cons (pv 1) (pa_cons (pv 2) pa_nil))))))), ?_⟩
    refine ⟨_, rfl, a, M, rfl, hM, gM, ht, fun H1 g1 => ?_⟩
    refine ⟨_, rfl, m, rfl, h1, h2, ?_⟩
    exact ⟨_, rfl, _, rfl, _, rfl, a, b, m, M, T, rfl, hM.gr g1, hT.gr g1, gT, g1.ok, fun H2 g2 => q H2 (g1.trans g2)⟩
/-! ### begins, first_clash -/
abbrev sBegins : Stmt := topS 26
theorem scBegins : FnScope ["one", "other"] ["one", "other"] (defScope sBegins) := ⟨rfl, rfl, rfl, by decide +kernel, rfl, by decide +kernel, by decide +kernel⟩
/-- rows of one length -/
def spBegins (K : PySem.W.Frag) : Sp := fun vs H Q _ => ∃ r u : Rw, vs = [.ref r.1, .ref u.1] ∧ RowAt K H r ∧ RowAt K H u ∧ r.2.length = u.2.length ∧ Q (.bl (decide (u.2 = r.2))) H
theorem ok_begins {c : Value} (G : Gb mg) (F : Df K mg "begins" sBegins ["one", "other"] [] c) : C8.Cal P w K mg base 1 "begins" (spBegins K) [] := by
  refine F.cal (k := 0) scBegins (fun vs H Q E h => ?_) (fun f A outer s H vs Q E hr h => ?_)
  · obtain ⟨r, u, rfl, _⟩ := h
    rfl
  · obtain ⟨r, u, rfl, hr1, hu1, hl, q⟩ := h
    have hr2 : SqT K H r.1 (r.2.map V.int) := hr1
    have hu2 : SqT K H u.1 (u.2.map V.int) := hu1
    refine ⟨_, pss_one (ps_ret (pe_cmpR (op_eqD hr.units) (pe_slice sl_tupA (pv 1) po_none (po_some (pe_callB call_len_seq rfl G.len boot_len (pa_cons (pv 0) pa_nil)))) (pv 0) (nomark _))), ?_⟩
    have e1 : (r.2.map V.int).length = (u.2.map V.int).length := by rw [List.length_map, List.length_map, hl]
    refine ⟨_, rfl, _, rfl, r.1, _, rfl, .inr hr2, _, rfl, u.1, _, rfl, hu2, fun _ => ?_, fun hn => absurd ⟨rfl, ?_⟩ hn⟩
    · refine ⟨_, rfl, dR u.2, dR r.2, dp_row hu2, dp_row hr2, shaped_row _, shaped_row _, ?_⟩
      rw [eqv_row]
      exact q
    · rw [e1, show HT.sIx (u.2.map V.int).length (u.2.map V.int).length (some (((u.2.map V.int).length : Nat) : Int)) = min (u.2.map V.int).length (u.2.map V.int).length from HT.sIx_nat _ _ _]
      exact Nat.min_self _
abbrev sClash : Stmt := topS 27
theorem scClash : FnScope ["rows", "one", "other"] ["rows"] (defScope sClash) := ⟨rfl, rfl, rfl, by decide +kernel, rfl, by decide +kernel, by decide +kernel⟩
def spClash (K : PySem.W.Frag) : Sp := fun vs H Q _ => ∃ (m : Nat) (u : Rs), vs = [.ref u.1] ∧ RsAt K H u ∧ GoodS m u ∧ Q .non H
theorem ok_clash {c : Value} (G : Gb mg) (F : Df K mg "first_clash" sClash ["rows"] [] c) (B : C8.Cal P w K mg base 1 "begins" (spBegins K) []) : C8.Cal P w K mg base 2 "first_clash" (spClash K) [] := by
  refine F.cal (k := 1) scClash (fun vs H Q E h => ?_) (fun f A outer s H vs Q E hr h => ?_)
  · obtain ⟨m, u, rfl, _⟩ := h
    rfl
  · obtain ⟨m, u, rfl, hU, gU, q⟩ := h
    refine ⟨_, pss_cons (ps_for PassesOwn.never rfl (pi_range1 rfl G.range (pa_cons (pe_callB call_len_seq rfl G.len boot_len (pa_cons (pv 0) pa_nil)) pa_nil)) (pg_name (i := 1) scClash.nd rfl (.inl rfl))
        (pss_one (ps_for PassesOwn.never rfl (pi_range1 rfl G.range (pa_cons (pe_callB call_len_seq rfl G.len boot_len (pa_cons (pv 0) pa_nil)) pa_nil)) (pg_name (i := 2) scClash.nd rfl (.inl rfl))
          (pss_one (ps_if (PW.pt (pw_and (pt_cmpR op_ne (pv 1) (pv 2) (nomark _)) (pw_and1 (pt_val (C8.pe_c B hr (by decide) rfl (pa_cons (pe_ix ix_tup (pv 0) (pv 1) (fun _ _ => rfl)) (pa_cons (pe_ix ix_tup (pv 0) (pv 2) (fun _ _ => rfl)) pa_nil))))))) pss_never pss_nil)))))
      (pss_one (ps_ret pe_non)), ?_⟩
    have hl : (u.2.map fun (r : Rw) => V.ref r.1).length = u.2.length := List.length_map ..
    have hb : ((u.2.map fun (r : Rw) => V.ref r.1).length : Int) ≤ 6 := by have := gU.few; omega
    have er : ∀ (i : Nat) (hi : i < u.2.length), (u.2.map fun (r : Rw) => V.ref r.1)[i]? = some (.ref u.2[i].1) := fun i hi => by
      rw [List.getElem?_map, List.getElem?_eq_getElem hi] <;> rfl
    obtain ⟨L, hL⟩ := gU.len
    refine ⟨.ref u.1, rfl, u.1, _, rfl, .inr hU.1, _, rfl, by omega, by omega, ?_⟩
    refine for_range (fun i σ H' => ∃ y1 y2, σ = [some (.ref u.1), y1, y2] ∧ H' = H) ⟨none, none, rfl, rfl⟩ (fun i σ H' hi hv => ?_) (fun σ H' hv => ?_)
    · obtain ⟨y1, y2, rfl, rfl⟩ := hv
      refine ⟨.ref u.1, rfl, u.1, _, rfl, .inr hU.1, _, rfl, by omega, by omega, ?_⟩
      refine for_range (fun j σ H2 => ∃ y2, σ = [some (.ref u.1), some (.int ((0 : Int) + i)), y2] ∧ H2 = H') ⟨_, rfl, rfl⟩ (fun j σ H' hj hv => ?_) (fun σ H' hv => ?_)
      · obtain ⟨y2, rfl, rfl⟩ := hv
        have hi' : i < u.2.length := by omega
        have hj' : j < u.2.length := by omega
        refine ⟨_, rfl, _, rfl, rfl, _, rfl, ite2 (fun hne => ?_) (fun _ => ⟨_, rfl, rfl⟩)⟩
        have hij : i ≠ j := fun e => by
          rw [e] at hne
          simp at hne
        have z0 : ∀ k : Nat, (0 : Int) + k = k := fun k => by omega
        rw [z0]
        refine ⟨_, rfl, _, rfl, u.1, _, i, _, rfl, rfl, hU.1, atI_nat (er i hi'), _, rfl, _, rfl, u.1, _, j, _, rfl, by rw [z0], hU.1, atI_nat (er j hj'), ?_⟩
        refine ⟨u.2[i], u.2[j], rfl, hU.2 _ (List.getElem_mem hi'), hU.2 _ (List.getElem_mem hj'), by rw [hL _ (List.getElem_mem hi'), hL _ (List.getElem_mem hj')], _, rfl, ?_⟩
        have hne2 : u.2[j].2 ≠ u.2[i].2 := fun e => by
          have h1 : (u.2.map (·.2))[j]? = (u.2.map (·.2))[i]? := by
            rw [List.getElem?_map, List.getElem?_map, List.getElem?_eq_getElem hj', List.getElem?_eq_getElem hi']
            show some u.2[j].2 = some u.2[i].2
            rw [e]
          have hjl : j < (u.2.map (·.2)).length := by rw [List.length_map]; exact hj'
          exact hij ((List.getElem?_inj hjl gU.nod).mp h1).symm
        rw [decide_eq_false hne2]
        exact iteF ⟨_, rfl, rfl⟩
      · obtain ⟨y2, rfl, rfl⟩ := hv
        exact ⟨_, _, rfl, rfl⟩
    · obtain ⟨y1, y2, rfl, rfl⟩ := hv
      exact q
/-! ### apart_at, is_apart -/
abbrev sApartAt : Stmt := topS 28
theorem scApartAt : FnScope ["machine", "table", "state"] ["machine", "table"] (defScope sApartAt) := ⟨rfl, rfl, rfl, by decide +kernel, rfl, by decide +kernel, by decide +kernel⟩
def spApartAt (K : PySem.W.Frag) (t : Tb) : Sp := fun vs H Q _ => ∃ (a b : Addr) (m : Nat) (M : List Sta) (T : List Rs), vs = [.ref a, .ref b] ∧ MachAt K H a M ∧ GoodM M ∧ TabAt K H b T ∧ GoodT m M T ∧ TOk t H ∧ ∀ H', Gr t H H' → Q .non H'
theorem ok_apartAt {c : Value} (F : Df K mg "apart_at" sApartAt ["machine", "table"] [] c) (S : C8.Cal P w K mg base 1 "states_that_come" (spCome K t) []) (C : C8.Cal P w K mg base 2 "first_clash" (spClash K) []) : C8.Cal P w K mg base 3 "apart_at" (spApartAt K t) [] := by
  refine F.cal (k := 2) scApartAt (fun vs H Q E h => ?_) (fun f A outer s H vs Q E hr h => ?_)
  · obtain ⟨a, b, m, M, T, rfl, _⟩ := h
    rfl
  · obtain ⟨a, b, m, M, T, rfl, hM, gM, hT, gT, ht, q⟩ := h
    refine ⟨_, pss_cons (ps_for PassesOwn.never rfl (pi_list (C8.pe_c S hr (by decide) rfl (pa_cons (pv 0) pa_nil))) (pg_name (i := 2) scApartAt.nd rfl (.inl rfl))
        (pss_one (ps_if (pt_cmp (pc_notN (C8.pe_c C hr (by decide) rfl (pa_cons (pe_ix ix_tup (pv 1) (pv 2) (fun _ _ => rfl)) pa_nil)))) pss_never pss_nil)))
      (pss_one (ps_ret pe_non)), ?_⟩
    refine ⟨_, rfl, a, M, rfl, hM, gM, ht, fun H1 p fs g1 ep hf => ?_⟩
    refine ⟨p, rfl, ⟨_, .inl (.inl ep)⟩, ?_⟩
    refine for_list (xs := vN fs) (fun i σ H' => ∃ y2, σ = [some (.ref a), some (.ref b), y2] ∧ H' = H1) ⟨none, rfl, rfl⟩ (fun i σ H' _ hv => ?_) (fun i x σ H' hx hv => ?_) (fun σ H' hv => ?_)
    · obtain ⟨_, _, rfl⟩ := hv
      exact .inl (.inl ep)
    · obtain ⟨y2, rfl, rfl⟩ := hv
      rw [List.getElem?_map] at hx
      cases ho : fs[i]? with
      | none =>
        rw [ho] at hx
        cases hx
      | some k =>
        rw [ho] at hx
        obtain rfl : V.int (k : Nat) = x := Option.some.inj hx
        have hk : k < T.length := by
          rw [gT.len]
          exact hf k (List.mem_of_getElem? ho)
        have eT : (T.map fun (s : Rs) => V.ref s.1)[k]? = some (.ref T[k].1) := by
          rw [List.getElem?_map, List.getElem?_eq_getElem hk] <;> rfl
        have mT : T[k] ∈ T := List.getElem_mem hk
        have hT' := hT.gr g1
        exact ⟨_, rfl, _, rfl, b, _, k, _, rfl, rfl, hT'.1, atI_nat eT, m, T[k], rfl, hT'.2 _ mT, gT.good _ mT, false, rfl, iteF ⟨_, rfl, rfl⟩⟩
    · obtain ⟨y2, rfl, rfl⟩ := hv
      exact q _ g1
abbrev sIsApart : Stmt := topS 29
theorem scIsApart : FnScope ["machine", "marks", "table"] ["machine", "marks", "table"] (defScope sIsApart) := ⟨rfl, rfl, rfl, by decide +kernel, rfl, by decide +kernel, by decide +kernel⟩
def spIsApart (K : PySem.W.Frag) (t : Tb) : Sp := fun vs H Q _ => ∃ (a b : Addr) (m : Nat) (M : List Sta) (T : List Rs), vs = [.ref a, .int (m : Nat), .ref b] ∧ 1 ≤ m ∧ m ≤ 4 ∧ MachAt K H a M ∧ GoodM M ∧ TabAt K H b T ∧ GoodT m M T ∧ TOk t H ∧ ∀ H', Gr t H H' → Q (.bl true) H'
theorem ok_isApart {c : Value} (F : Df K mg "is_apart" sIsApart ["machine", "marks", "table"] [] c) (N : C8.Cal P w K mg base 6 "need_house" (spNeedHouse K t) []) (A3 : C8.Cal P w K mg base 3 "apart_at" (spApartAt K t) []) : C8.Cal P w K mg base 7 "is_apart" (spIsApart K t) [] := by
  refine F.cal (k := 6) scIsApart (fun vs H Q E h => ?_) (fun f A outer s H vs Q E hr h => ?_)
  · obtain ⟨a, b, m, M, T, rfl, _⟩ := h
    rfl
  · obtain ⟨a, b, m, M, T, rfl, h1, h2, hM, gM, hT, gT, ht, q⟩ := h
    refine ⟨_, pss_cons (ps_expr (C8.pe_c N hr (by decide) rfl (pa_cons (pv 0) (pa_cons (pv 1) (pa_cons (pv 2) pa_nil)))))
      (pss_one (ps_ret (pe_cmp (pc_isN (C8.pe_c A3 hr (by decide) rfl (pa_cons (pv 0) (pa_cons (pv 2) pa_nil))))))), ?_⟩
    refine ⟨_, rfl, _, rfl, _, rfl, a, b, m, M, T, rfl, h1, h2, hM, gM, hT, gT, ht, fun H1 g1 => ?_⟩
    exact ⟨_, rfl, _, rfl, a, b, m, M, T, rfl, hM.gr g1, gM, hT.gr g1, gT, g1.ok, fun H2 g2 => q H2 (g1.trans g2)⟩
/-! ### power -/
abbrev sPower : Stmt := topS 30
theorem scPower : FnScope ["number", "times", "found", "_"] ["number", "times"] (defScope sPower) := ⟨rfl, rfl, rfl, by decide +kernel, rfl, by decide +kernel, by decide +kernel⟩
def spPower : Sp := fun vs H Q _ => ∃ b n : Nat, vs = [.int (b : Nat), .int (n : Nat)] ∧ b ≤ 4 ∧ n ≤ 1000 ∧ Q (.int ((b ^ n : Nat) : Nat)) H
theorem ok_power {c : Value} (G : Gb mg) (F : Df K mg "power" sPower ["number", "times"] [] c) : C8.Cal P w K mg base 1 "power" spPower [] := by
  refine F.cal (k := 0) scPower (fun vs H Q E h => ?_) (fun f A outer s H vs Q E hr h => ?_)
  · obtain ⟨b, n, rfl, _⟩ := h
    rfl
  · obtain ⟨b, n, rfl, hb, hn, q⟩ := h
    refine ⟨_, pss_cons (ps_set (i := 2) scPower.nd rfl (.inl rfl) pe_int) (pss_cons (ps_for PassesOwn.never rfl (pi_range1 rfl G.range (pa_cons (pv 1) pa_nil)) (pg_name (i := 3) scPower.nd rfl (.inl rfl))
        (pss_one (ps_aug (i := 2) scPower.nd rfl (.inl rfl) (pv 0) iop_mul)))
      (pss_one (ps_ret (pv 2)))), ?_⟩
    refine ⟨_, rfl, n, rfl, by omega, by omega, ?_⟩
    refine for_range (n := (n : Int).toNat) (fun i σ H' => ∃ y3, σ = [some (.int (b : Nat)), some (.int (n : Nat)), some (.int ((b ^ i : Nat) : Nat)), y3] ∧ H' = H) ⟨none, rfl, rfl⟩ (fun i σ H' hi hv => ?_) (fun σ H' hv => ?_)
    · obtain ⟨y3, rfl, rfl⟩ := hv
      refine ⟨_, rfl, _, rfl, _, _, rfl, rfl, .inr ⟨by omega, by omega⟩, some (.int ((0 : Int) + i)), ?_, rfl⟩
      rw [Nat.pow_succ]
      rfl
    · obtain ⟨y3, rfl, rfl⟩ := hv
      rw [Int.toNat_natCast]
      exact ⟨_, rfl, q⟩
end
end LT

set_option Elab.async false
set_option linter.all false
set_option maxRecDepth 100000
set_option maxHeartbeats 4000000
/-! the defs of onelife.codes -/
namespace LT
open PySem PySem.Spec PyProof.Rows L2
/-! ### the mathematics -/
/-- the least length >= 1 whose rows are enough, for at most eight of them -/
def lng (b n : Nat) : Nat := if n ≤ b then 1 else if n ≤ b * b then 2 else 3
def lngB : Bool := (List.range 5).all fun b => (List.range 7).all fun n => (List.range 4).all fun l => !(decide (2 ≤ b) && (decide (1 ≤ n) && (decide (1 ≤ l) && decide (l ≤ lng b n)))) || (decide (b ^ l < n) == decide (l < lng b n))
theorem lngB_ok : lngB = true := by decide +kernel
theorem lng_lt (b : Nat) (hb : b < 5) (n : Nat) (hn : n < 7) (l : Nat) (hl : l < 4) (h1 : 2 ≤ b) (h2 : 1 ≤ n) (h3 : 1 ≤ l) (h4 : l ≤ lng b n) : b ^ l < n ↔ l < lng b n := by
  have h := List.all_eq_true.mp (List.all_eq_true.mp (List.all_eq_true.mp lngB_ok b (List.mem_range.mpr hb)) n (List.mem_range.mpr hn)) l (List.mem_range.mpr hl)
  rw [decide_eq_true h1, decide_eq_true h2, decide_eq_true h3, decide_eq_true h4] at h
  have h5 : decide (b ^ l < n) = decide (l < lng b n) := by simpa using h
  exact ⟨fun z => of_decide_eq_true (by rw [← h5]; exact decide_eq_true z), fun z => of_decide_eq_true (by rw [h5]; exact decide_eq_true z)⟩
theorem lng_pos (b n : Nat) : 1 ≤ lng b n := by
  unfold lng
  split
  · decide
  · split <;> decide
theorem lng_le (b n : Nat) : lng b n ≤ 3 := by
  unfold lng
  split
  · decide
  · split <;> decide
/-- the digits of i, base b, k of them, the greatest first -/
def rowN (b i : Nat) : Nat → List Int
  | 0 => []
  | k + 1 => ((i / b ^ k % b : Nat) : Int) :: rowN b i k
theorem rowN_len (b i : Nat) : ∀ k, (rowN b i k).length = k
  | 0 => rfl
  | k + 1 => by
    show (rowN b i k).length + 1 = k + 1
    rw [rowN_len b i k]
section
variable {P : Program} {w : World} {K : PySem.W.Frag} {mg : Str → Option Value} {base : Heap} {t : Tb}
/-! ### longest_of -/
abbrev sLongest : Stmt := topS 34
theorem scLongest : FnScope ["marks", "many", "length"] ["marks", "many"] (defScope sLongest) := ⟨rfl, rfl, rfl, by decide +kernel, rfl, by decide +kernel, by decide +kernel⟩
def spLongest : Sp := fun vs H Q _ => ∃ b n : Nat, vs = [.int (b : Nat), .int (n : Nat)] ∧ 2 ≤ b ∧ b ≤ 4 ∧ 1 ≤ n ∧ n ≤ 6 ∧ Q (.int (lng b n : Nat)) H
theorem ok_longest {c : Value} (F : Df K mg "longest_of" sLongest ["marks", "many"] [] c) (W : C8.Cal P w K mg base 1 "power" spPower []) : C8.Cal P w K mg base 2 "longest_of" spLongest [] := by
  refine F.cal (k := 1) scLongest (fun vs H Q E h => ?_) (fun f A outer s H vs Q E hr h => ?_)
  · obtain ⟨b, n, rfl, _⟩ := h
    rfl
  · obtain ⟨b, n, rfl, hb, hb4, hn, hn6, q⟩ := h
    refine ⟨_, pss_cons (ps_if (pt_cmpR op_eq (pv 0) pe_int (nomark _)) pss_never pss_nil) (pss_cons (ps_set (i := 2) scLongest.nd rfl (.inl rfl) pe_int)
      (pss_cons (ps_while PassesOwn.never (pt_cmpR op_lt (C8.pe_c W hr (by decide) rfl (pa_cons (pv 0) (pa_cons (pv 2) pa_nil))) (pv 1) (nomark _))
        (pss_one (ps_aug (i := 2) scLongest.nd rfl (.inl rfl) pe_int ip_add)))
      (pss_one (ps_ret (pv 2))))), ?_⟩
    have nb : ¬ (V.int (b : Nat) = V.int 1) := fun z => by
      have z : ((b : Nat) : Int) = 1 := V.int.inj z
      omega
    refine ⟨_, rfl, rfl, _, rfl, ?_⟩
    rw [decide_eq_false nb]
    refine iteF ?_
    refine ⟨fun m σ H' => ∃ l : Nat, σ = [some (.int (b : Nat)), some (.int (n : Nat)), some (.int (l : Nat))] ∧ H' = H ∧ 1 ≤ l ∧ l + m = lng b n, ⟨lng b n - 1, 1, rfl, rfl, by decide, by have := lng_pos b n; omega⟩, fun m σ H' hW => ?_⟩
    obtain ⟨l, rfl, rfl, hl, hm⟩ := hW
    have key := lng_lt b (by omega) n (by omega) l (by have := lng_le b n; omega) hb hn hl (by omega)
    refine ⟨_, rfl, _, rfl, b, l, rfl, hb4, by have := lng_le b n; omega, ?_⟩
    refine ⟨_, rfl, _, _, rfl, rfl, _, rfl, ite2 (fun h => ?_) (fun h => ?_)⟩
    · have h1 : (((b ^ l : Nat) : Nat) : Int) < (n : Nat) := of_decide_eq_true h
      have h2 : l < lng b n := key.mp (by omega)
      refine ⟨fun σ' H2 => σ' = [some (.int (b : Nat)), some (.int (n : Nat)), some (.int ((l + 1 : Nat) : Nat))] ∧ H2 = H', fun σ' H2 hN => ?_, ?_⟩
      · obtain ⟨rfl, rfl⟩ := hN
        exact ⟨m - 1, by omega, l + 1, rfl, rfl, by omega, by omega⟩
      · exact ⟨_, rfl, _, 1, rfl, rfl, rfl, rfl⟩
    · have h1 : ¬ (((b ^ l : Nat) : Nat) : Int) < (n : Nat) := fun z => h (decide_eq_true z)
      have h2 : ¬ l < lng b n := fun z => h1 (by have := key.mpr z; omega)
      have e : l = lng b n := by omega
      exact ⟨_, rfl, by rw [e]; exact q⟩
/-! ### row_number -/
abbrev sRowNum : Stmt := topS 35
theorem scRowNum : FnScope ["marks", "number", "length", "found", "_"] ["marks", "number", "length"] (defScope sRowNum) := ⟨rfl, rfl, rfl, by decide +kernel, rfl, by decide +kernel, by decide +kernel⟩
def spRowNum (K : PySem.W.Frag) (t : Tb) : Sp := fun vs H Q _ => ∃ b i l : Nat, vs = [.int (b : Nat), .int (i : Nat), .int (l : Nat)] ∧ 2 ≤ b ∧ b ≤ 4 ∧ l ≤ 3 ∧ TOk t H ∧ ∀ (H' : Hp) (p : Addr), Gr t H H' → SqT K H' p ((rowN b i l).map V.int) → Q (.ref p) H'
theorem ok_rowNum {c : Value} (G : Gb mg) (F : Df K mg "row_number" sRowNum ["marks", "number", "length"] [] c) : C8.Cal P w K mg base 1 "row_number" (spRowNum K t) [] := by
  refine F.cal (k := 0) scRowNum (fun vs H Q E h => ?_) (fun f A outer s H vs Q E hr h => ?_)
  · obtain ⟨b, i, l, rfl, _⟩ := h
    rfl
  · obtain ⟨b, i, l, rfl, hb, hb4, hl, ht, q⟩ := h
    refine ⟨_, pss_cons (ps_set (i := 3) scRowNum.nd rfl (.inl rfl) (pe_tup pa_nil))
      (pss_cons (ps_for PassesOwn.never rfl (pi_range1 rfl G.range (pa_cons (pv 2) pa_nil)) (pg_name (i := 4) scRowNum.nd rfl (.inl rfl))
        (pss_cons (ps_set (i := 3) scRowNum.nd rfl (.inl rfl) (pe_op op_catA (pe_tup (pa_cons (pe_op op_mod (pv 1) (pv 0)) pa_nil)) (pv 3)))
          (pss_one (ps_aug (i := 1) scRowNum.nd rfl (.inl rfl) (pv 0) iop_fdiv))))
      (pss_one (ps_ret (pv 3)))), ?_⟩
    refine ⟨by decide, fun p0 np0 => ?_⟩
    refine ⟨_, rfl, l, rfl, by omega, by omega, ?_⟩
    refine for_range (n := (l : Int).toNat) (fun k σ H' => ∃ (p : Addr) (y4 : Option V), σ = [some (.int (b : Nat)), some (.int ((i / b ^ k : Nat) : Nat)), some (.int (l : Nat)), some (.ref p), y4] ∧ Gr t H H' ∧ SqT K H' p ((rowN b i k).map V.int))
      ⟨p0, none, by rw [Nat.pow_zero, Nat.div_one] <;> rfl, ht.gr.new np0, sqT_fun upd_same⟩ (fun k σ H' hk hv => ?_) (fun σ H' hv => ?_)
    · obtain ⟨p, y4, rfl, g, hp⟩ := hv
      have hk3 : k < 3 := by omega
      have hlen : ((rowN b i k).map V.int).length = k := by rw [List.length_map, rowN_len]
      have em : (((i / b ^ k : Nat) : Int) % (b : Int)) = ((i / b ^ k % b : Nat) : Int) := by omega
      have en : (((i / b ^ k : Nat) : Int) / (b : Int)) = ((i / b ^ (k + 1) : Nat) : Int) := by
        rw [Nat.pow_succ, ← Nat.div_div_eq_div_mul]
        omega
      refine ⟨_, rfl, _, rfl, _, _, rfl, rfl, by show (0 : Int) < b; omega, Nat.le_of_lt (small1000 (show 1 ≤ 1000 by decide)), fun p1 np1 => ?_⟩
      have g1 := g.new (o := .tup [V.int (((i / b ^ k : Nat) : Int) % (b : Int))]) np1
      have hp1 : SqT K (upd H' p1 (.tup [V.int (((i / b ^ k : Nat) : Int) % (b : Int))])) p ((rowN b i k).map V.int) := GS.sqT_ext hp (LamX.ExtN.of (same_new np1))
      have fin : ∀ (p2 : Addr) (H2 : Hp), Gr t H H2 → SqT K H2 p2 ((rowN b i (k + 1)).map V.int) → ∃ x, ([some (.int (b : Nat)), some (.int ((i / b ^ k : Nat) : Nat)), some (.int (l : Nat)), some (.ref p2), some (.int ((0 : Int) + k))] : L2.St)[1]? = some (some x) ∧ tVar 0 [some (.int (b : Nat)), some (.int ((i / b ^ k : Nat) : Nat)), some (.int (l : Nat)), some (.ref p2), some (.int ((0 : Int) + k))] H2 fun y H1 =>
          (rI CDiv fun i j => .int (i / j)) x y H1 fun z H3 => ∃ (p : Addr) (y4 : Option V), (([some (.int (b : Nat)), some (.int ((i / b ^ k : Nat) : Nat)), some (.int (l : Nat)), some (.ref p2), some (.int ((0 : Int) + k))] : L2.St).set 1 (some z)) = [some (.int (b : Nat)), some (.int ((i / b ^ (k + 1) : Nat) : Nat)), some (.int (l : Nat)), some (.ref p), y4] ∧ Gr t H H3 ∧ SqT K H3 p ((rowN b i (k + 1)).map V.int) := fun p2 H2 g2 h2 => by
        refine ⟨_, rfl, _, rfl, _, _, rfl, rfl, ⟨by omega, by omega⟩, p2, some (.int ((0 : Int) + k)), ?_, g2, h2⟩
        rw [← en]
        rfl
      refine ⟨_, rfl, p1, p, _, _, rfl, rfl, sqT_fun upd_same, hp1, ?_, (fun z => by cases z), fun _ hz => ?_, fun _ hz p2 np2 => ?_⟩
      · rw [hlen]
        exact Nat.le_of_lt (small1000 (by show 1 + k ≤ 1000; omega))
      · refine fin p1 _ g1 ?_
        have ek : rowN b i k = [] := List.map_eq_nil_iff.mp hz
        show SqT K _ p1 (V.int ((i / b ^ k % b : Nat) : Int) :: (rowN b i k).map V.int)
        rw [ek, ← em]
        exact sqT_fun upd_same
      · refine fin p2 _ (g1.new np2) ?_
        show SqT K _ p2 (V.int ((i / b ^ k % b : Nat) : Int) :: (rowN b i k).map V.int)
        rw [← em]
        exact sqT_fun upd_same
    · obtain ⟨p, y4, rfl, g, hp⟩ := hv
      rw [Int.toNat_natCast] at hp
      exact ⟨_, rfl, q H' p g hp⟩
/-! ### canonical -/
abbrev sCanon : Stmt := topS 36
theorem scCanon : FnScope ["marks", "lengths", "order", "found", "number", "length", "index"] ["marks", "lengths"] (defScope sCanon) := ⟨rfl, rfl, rfl, by decide +kernel, rfl, by decide +kernel, by decide +kernel⟩
def spCanon (K : PySem.W.Frag) (t : Tb) : Sp := fun vs H Q _ => ∃ (b n l : Nat) (a : Addr), vs = [.int (b : Nat), .ref a] ∧ SqT K H a (List.replicate n (V.int (l : Nat))) ∧ 2 ≤ b ∧ b ≤ 4 ∧ n ≤ 6 ∧ n ≤ b ^ l ∧ l ≤ 3 ∧ TOk t H ∧
  ∀ (H' : Hp) (u : Rs), Gr t H H' → RsAt K H' u → u.2.map (·.2) = (List.range n).map (fun i => rowN b i l) → Q (.ref u.1) H'
theorem ok_canon {c : Addr} (G : Gb mg) (F : Df K mg "canonical" sCanon ["marks", "lengths"] [] (.ref c)) (TB : LamX.TabB base mg c t.cn) (W : C8.Cal P w K mg base 1 "power" spPower []) (R : C8.Cal P w K mg base 1 "row_number" (spRowNum K t) []) :
    C8.Cal P w K mg base 2 "canonical" (spCanon K t) [] := by
  refine F.cal (k := 1) scCanon (fun vs H Q E h => ?_) (fun f A outer s H vs Q E hr h => ?_)
  · obtain ⟨b, n, l, a, rfl, _⟩ := h
    rfl
  · obtain ⟨b, n, l, a, rfl, hS, hb, hb4, hn, hnb, hl, ht, q⟩ := h
    refine ⟨_, pss_cons (ps_set (i := 2) scCanon.nd rfl (.inl rfl) (GS.pe_sortL (iy := 1) rfl G.sorted boot_sorted rfl G.range (pe_callB call_len_seq rfl G.len boot_len (pa_cons (pv 1) pa_nil)) hr rfl TB rfl
          (GS.lamS1_by (show GS.lamSB1 (defScope sCanon) _ "index" "lengths" = true by decide +kernel)) rfl (fun _ _ _ _ _ _ => rfl) rfl rfl))
      (pss_cons (ps_asg (pe_tup (pa_cons pe_dnewK (pa_cons pe_int (pa_cons pe_int pa_nil)))) (pg_tup rfl (pgs_cons (pg_name (i := 3) scCanon.nd rfl (.inr rfl)) (pgs_cons (pg_name (i := 4) scCanon.nd rfl (.inl rfl)) (pgs_cons (pg_name (i := 5) scCanon.nd rfl (.inl rfl)) pgs_nil)))))
      (pss_cons (ps_for PassesOwn.never rfl (pi_list (pv 2)) (pg_name (i := 6) scCanon.nd rfl (.inl rfl))
        (pss_cons (ps_aug (i := 4) scCanon.nd rfl (.inl rfl) (C8.pe_c W hr (by decide) rfl (pa_cons (pv 0) (pa_cons (pe_op op_sub (pe_ix ix_tup (pv 1) (pv 6) (fun _ _ => rfl)) (pv 5)) pa_nil))) iop_mul)
        (pss_cons (ps_set (i := 5) scCanon.nd rfl (.inl rfl) (pe_ix ix_tup (pv 1) (pv 6) (fun _ _ => rfl)))
        (pss_cons (ps_if (pt_cmpR op_ge (pv 4) (C8.pe_c W hr (by decide) rfl (pa_cons (pv 0) (pa_cons (pv 5) pa_nil))) (nomark _)) pss_never pss_nil)
        (pss_cons (ps_dput (hu_of hr) (pv 3) (pv 6) (C8.pe_c R hr (by decide) rfl (pa_cons (pv 0) (pa_cons (pv 4) (pa_cons (pv 5) pa_nil)))) rfl)
        (pss_one (ps_aug (i := 4) scCanon.nd rfl (.inl rfl) pe_int ip_add)))))))
      (pss_one (ps_ret (pe_tupleOf rfl G.tuple (pe_lc (own := [("index", 6)]) (g := gName 6) (tt := tYes) rfl scCanon.nd (pi_range1 rfl G.range (pa_cons (pe_callB call_len_seq rfl G.len boot_len (pa_cons (pv 1) pa_nil)) pa_nil))
        (blkOk_by (own := [("index", 6)]) (N := ["marks", "lengths", "order", "found", "number", "length", "index"]) (sc := defScope sCanon) (by decide +kernel)) (fun _ _ _ _ _ => pg_name (i := 6) scCanon.nd rfl (Or.inl rfl)) (fun _ _ _ _ _ => pts_nil)
        (fun _ _ _ _ _ => pe_dget (hu_of hr) (pv 3) (pv 6) (fun _ _ => rfl)))))))), ?_⟩
    have hlen : (List.replicate n (V.int (l : Nat))).length = n := List.length_replicate ..
    have hat : ∀ i : Nat, i < n → atI (List.replicate n (V.int (l : Nat))) (i : Nat) = some (V.int (l : Nat)) := fun i hi => atI_nat (by rw [List.getElem?_replicate, if_pos hi])
    -- order
    refine ⟨_, rfl, a, _, rfl, .inr hS, ht.l, a, n, (l : Nat), by rw [hlen], rfl, hS, by omega, fun H1 hfar hl1 o no => ?_⟩
    have g1 : Gr t H H1 := ht.far hfar hl1
    have g2 : Gr t H (upd H1 o (.lst (vN (List.range n)))) := g1.new no
    -- found, number, length
    refine fun d nd => ⟨Nat.le_of_lt (small1000 (show 3 ≤ 1000 by decide)), fun tp ntp => ?_⟩
    have g3 : Gr t H (upd (upd H1 o (.lst (vN (List.range n)))) d (.dK [])) := g2.new nd
    have g4 := g3.new (o := .tup [V.ref d, .int 0, .int 0]) ntp
    have dtp : d ≠ tp := ne_of_none upd_same ntp
    have nod : o ≠ d := ne_of_none upd_same nd
    refine ⟨tp, _, rfl, sqT_fun upd_same, rfl, _, _, rfl, _, _, rfl, _, _, rfl, rfl, ?_⟩
    have eo : (upd (upd (upd H1 o (.lst (vN (List.range n)))) d (.dK [])) tp (.tup [V.ref d, .int 0, .int 0])) o = some (.lst (vN (List.range n))) := by
      rw [upd_ne (ne_of_none (show (upd (upd H1 o (.lst (vN (List.range n)))) d (.dK [])) o = some (.lst (vN (List.range n))) by rw [upd_ne nod, upd_same]) ntp), upd_ne nod, upd_same]
    have ed : (upd (upd (upd H1 o (.lst (vN (List.range n)))) d (.dK [])) tp (.tup [V.ref d, .int 0, .int 0])) d = some (.dK []) := by
      rw [upd_ne dtp, upd_same]
    have nd0 : H d = none := g2.free d nd
    have hN : (vN (List.range n)).length = n := by rw [List.length_map, List.length_range]
    refine ⟨_, rfl, o, rfl, ⟨_, .inl (.inl eo)⟩, ?_⟩
    refine for_list (xs := vN (List.range n)) (fun i σ H' => ∃ (y6 : Option V) (kvs : List (Key × V)), σ = [some (.int (b : Nat)), some (.ref a), some (.ref o), some (.ref d), some (.int (i : Nat)), some (.int ((if i = 0 then 0 else l : Nat) : Nat)), y6] ∧ Gr t H H' ∧
        H' o = some (.lst (vN (List.range n))) ∧ H' d = some (.dK kvs) ∧ kvs.length = i ∧ (∀ j < i, ∃ p, valV kvs (.inl ((j : Nat) : Int)) = some (.ref p) ∧ SqT K H' p ((rowN b j l).map V.int)) ∧ ∀ j : Nat, i ≤ j → valV kvs (.inl ((j : Nat) : Int)) = none)
      ⟨none, [], rfl, g4, eo, ed, rfl, fun j hj => absurd hj (Nat.not_lt_zero j), fun _ _ => rfl⟩ (fun i σ H' _ hv => ?_) (fun i x σ H' hx hv => ?_) (fun σ H' hv => ?_)
    · obtain ⟨_, _, _, _, e, _⟩ := hv
      exact .inl (.inl e)
    · obtain ⟨y6, kvs, rfl, g, eo, ed, hk, hv1, hv2⟩ := hv
      have hi : i < n := by
        have := (List.getElem?_eq_some_iff.mp hx).1
        omega
      obtain rfl : V.int ((i : Nat) : Int) = x := by
        rw [List.getElem?_map, List.getElem?_range hi] at hx
        exact Option.some.inj hx
      have hS' : SqT K H' a (List.replicate n (V.int (l : Nat))) := g.sqT hS
      have e1 : ((l : Nat) : Int) - ((if i = 0 then 0 else l : Nat) : Nat) = ((if i = 0 then l else 0 : Nat) : Nat) := by
        split <;> omega
      have e2 : ((i : Nat) : Int) * ((b ^ (if i = 0 then l else 0 : Nat) : Nat) : Nat) = (i : Nat) := by
        by_cases z : i = 0
        · rw [z]
          omega
        · rw [if_neg z, Nat.pow_zero]
          omega
      refine ⟨_, rfl, _, rfl, _, rfl, _, rfl, a, _, i, _, rfl, rfl, hS', hat i hi, _, rfl, _, _, rfl, rfl, ?_⟩
      refine ⟨b, (if i = 0 then l else 0 : Nat), congrArg (fun z => [V.int (b : Nat), V.int z]) e1, hb4, by split <;> omega, ?_⟩
      refine ⟨_, _, rfl, rfl, .inl ⟨by omega, by omega⟩, ?_⟩
      simp only [e2]
      refine ⟨_, rfl, _, rfl, a, _, i, _, rfl, rfl, hS', hat i hi, ?_⟩
      refine ⟨_, rfl, _, rfl, _, rfl, b, l, rfl, hb4, by omega, _, _, rfl, rfl, _, rfl, ?_⟩
      rw [decide_eq_false (show ¬ (((b ^ l : Nat) : Nat) : Int) ≤ ((i : Nat) : Int) by omega)]
      refine iteF ?_
      refine ⟨_, rfl, _, rfl, _, rfl, b, i, l, rfl, hb, hb4, hl, g.ok, fun H2 p g2 hp => ?_⟩
      have ed2 : H2 d = some (.dK kvs) := g2.ext _ _ ed (fun ps z => by cases z)
      have eo2 : H2 o = some (.lst (vN (List.range n))) := g2.ext _ _ eo (fun ps z => by cases z)
      refine ⟨_, rfl, _, rfl, d, _, rfl, DPut.k (k := .inl ((i : Nat) : Int)) ed2 (small1000 (by omega)), ?_⟩
      have hput : putK kvs (.inl ((i : Nat) : Int)) (V.ref p) = kvs ++ [(.inl ((i : Nat) : Int), V.ref p)] := putK_new _ (hv2 i (Nat.le_refl _))
      refine ⟨_, rfl, _, _, rfl, rfl, some (.int (i : Nat)), putK kvs (.inl ((i : Nat) : Int)) (V.ref p), ?_, (g.trans g2).put nd0 ed2 (fun ps z => by cases z) (fun φ z => by cases z), ?_, upd_same, ?_, fun j hj => ?_, fun j hj => ?_⟩
      · rw [if_neg (Nat.succ_ne_zero i)]
        rfl
      · rw [upd_ne (ne_of eo2 ed2 (fun z => by cases z))]
        exact eo2
      · rw [hput, List.length_append, hk]
        rfl
      · rw [valV_put]
        by_cases z : j = i
        · refine ⟨p, if_pos (by rw [z]), ?_⟩
          rw [z]
          exact sqT_upd hp ed2 (fun ys z => by cases z) (fun ob ys z => by cases z)
        · obtain ⟨p', h1, h2⟩ := hv1 j (by omega)
          refine ⟨p', ?_, sqT_upd (g2.sqT h2) ed2 (fun ys z => by cases z) (fun ob ys z => by cases z)⟩
          rw [if_neg (fun q => z (by have q := Sum.inl.inj q; omega))]
          exact h1
      · rw [valV_put, if_neg (fun q => by have q := Sum.inl.inj q; omega)]
        exact hv2 j (by omega)
    · obtain ⟨y6, kvs, rfl, g, eo, ed, hk, hv1, hv2⟩ := hv
      rw [hN] at hv1
      have hS' : SqT K H' a (List.replicate n (V.int (l : Nat))) := g.sqT hS
      refine ⟨_, rfl, a, _, rfl, .inr hS', _, rfl, by rw [hlen]; omega, by rw [hlen]; omega, fun D nD => ?_⟩
      have ndD : d ≠ D := ne_of_none ed nD
      refine lc_range (fun i H2 => ∃ rs : List Rw, H2 = upd H' D (.lst (rs.map fun r => V.ref r.1)) ∧ rs.length = i ∧ (∀ r ∈ rs, SqT K H' r.1 (r.2.map V.int)) ∧ rs.map (·.2) = (List.range i).map fun j => rowN b j l)
        ⟨[], rfl, rfl, (fun r hr => by cases hr), rfl⟩ (fun i H2 hi hv => ?_) (fun H2 hv => ?_)
      · obtain ⟨rs, rfl, hrl, hrs, hrm⟩ := hv
        have hi : i < n := by
          rw [hlen, Int.toNat_natCast] at hi
          exact hi
        obtain ⟨p, h1, h2⟩ := hv1 i hi
        have z0 : (0 : Int) + (i : Nat) = (i : Nat) := by omega
        refine ⟨rfl, _, rfl, _, rfl, d, .ref p, rfl, .inl ⟨kvs, .inl ((0 : Int) + (i : Nat)), .inl (by rw [upd_ne ndD]; exact ed), rfl, by rw [z0]; exact h1.symm⟩, _, upd_same, small1000 (by rw [List.length_map]; omega), rs ++ [(p, rowN b i l)], ?_, by rw [List.length_append, hrl] <;> rfl, fun r hr => ?_, ?_⟩
        · rw [upd_upd, List.map_append] <;> rfl
        · rcases List.mem_append.mp hr with z | z
          · exact hrs r z
          · rw [List.mem_singleton.mp z]
            exact h2
        · rw [List.map_append, hrm, List.range_succ, List.map_append] <;> rfl
      · obtain ⟨rs, rfl, hrl, hrs, hrm⟩ := hv
        refine .inl ⟨D, _, rfl, .inl (.inl upd_same), fun p np => ?_⟩
        have s1 : Same H' (upd (upd H' D (.lst (rs.map fun r => V.ref r.1))) p (.tup (rs.map fun r => V.ref r.1))) := (same_new nD).trans (same_new np)
        refine q _ (p, rs) ((g.new nD).new np) ⟨sqT_fun upd_same, fun r hr => GS.sqT_ext (hrs r hr) (LamX.ExtN.of s1)⟩ ?_
        rw [hrm, hlen, Int.toNat_natCast]
/-! ### least_longest, rows_for -/
abbrev sLeast : Stmt := topS 37
theorem scLeast : FnScope ["marks", "many"] ["marks", "many"] (defScope sLeast) := ⟨rfl, rfl, rfl, by decide +kernel, rfl, by decide +kernel, by decide +kernel⟩
theorem ok_least {c : Value} (G : Gb mg) (F : Df K mg "least_longest" sLeast ["marks", "many"] [] c) (M2 : C8.Cal P w K mg base 2 "need_marks" spMarks []) (N : C8.Cal P w K mg base 2 "need_number" spNeed []) (L : C8.Cal P w K mg base 2 "longest_of" spLongest []) :
    C8.Cal P w K mg base 3 "least_longest" spLongest [] := by
  refine F.cal (k := 2) scLeast (fun vs H Q E h => ?_) (fun f A outer s H vs Q E hr h => ?_)
  · obtain ⟨b, n, rfl, _⟩ := h
    rfl
  · obtain ⟨b, n, rfl, hb, hb4, hn, hn6, q⟩ := h
    obtain ⟨t40, g40⟩ := G.many
    refine ⟨_, pss_cons (ps_expr (C8.pe_c M2 hr (by decide) rfl (pa_cons (pv 0) pa_nil))) (pss_cons (ps_expr (C8.pe_c N hr (by decide) rfl (pa_cons (pv 1) (pa_cons pe_int (pa_cons (pe_glob (v := .int 40) rfl g40 ⟨t40, rfl⟩) pa_nil)))))
      (pss_one (ps_ret (C8.pe_c L hr (by decide) rfl (pa_cons (pv 0) (pa_cons (pv 1) pa_nil)))))), ?_⟩
    refine ⟨_, rfl, b, rfl, by omega, hb4, ?_⟩
    refine ⟨_, rfl, n, 1, 40, rfl, by omega, by omega, ?_⟩
    exact ⟨_, rfl, _, rfl, b, n, rfl, hb, hb4, hn, hn6, q⟩
abbrev sRowsFor : Stmt := topS 38
theorem scRowsFor : FnScope ["marks", "lengths", "length"] ["marks", "lengths"] (defScope sRowsFor) := ⟨rfl, rfl, rfl, by decide +kernel, rfl, by decide +kernel, by decide +kernel⟩
def spRowsFor (K : PySem.W.Frag) (t : Tb) : Sp := fun vs H Q _ => ∃ (b n l : Nat) (a : Addr), vs = [.int (b : Nat), .ref a] ∧ SqT K H a (List.replicate n (V.int (l : Nat))) ∧ 2 ≤ b ∧ b ≤ 4 ∧ 1 ≤ n ∧ n ≤ 6 ∧ n ≤ b ^ l ∧ 1 ≤ l ∧ l ≤ 3 ∧ TOk t H ∧
  ∀ (H' : Hp) (u : Rs), Gr t H H' → RsAt K H' u → u.2.map (·.2) = (List.range n).map (fun i => rowN b i l) → Q (.ref u.1) H'
theorem ok_rowsFor {c PF : Addr} (G : Gb mg) (F : Df K mg "rows_for" sRowsFor ["marks", "lengths"] [] (.ref c)) (TB : GxR.TabB base mg c PF) (hP : PF ∈ t.gs) (N : C8.Cal P w K mg base 1 "is_number" spNum []) (M2 : C8.Cal P w K mg base 2 "need_marks" spMarks [])
    (C : C8.Cal P w K mg base 2 "canonical" (spCanon K t) []) : C8.Cal P w K mg base 3 "rows_for" (spRowsFor K t) [] := by
  refine F.cal (k := 2) scRowsFor (fun vs H Q E h => ?_) (fun f A outer s H vs Q E hr h => ?_)
  · obtain ⟨b, n, l, a, rfl, _⟩ := h
    rfl
  · obtain ⟨b, n, l, a, rfl, hS, hb, hb4, hn1, hn, hnb, hl1, hl, ht, q⟩ := h
    obtain ⟨t40, g40⟩ := G.many
    obtain ⟨t12, g12⟩ := G.length
    refine ⟨_, pss_cons (ps_expr (C8.pe_c M2 hr (by decide) rfl (pa_cons (pv 0) pa_nil)))
      (pss_cons (ps_if (PW.pt (pw_or (pt_not (pt_val (pe_callB call_isi rfl G.isi boot_isinstance (pa_cons (pv 1) (pa_cons (pe_bltn (v := .ty "tuple") rfl G.tuple boot_tuple rfl) pa_nil)))))
        (pw_or1 (pt_not (pt_chain op_le op_le pe_int (pe_callB call_len_seq rfl G.len boot_len (pa_cons (pv 1) pa_nil)) (pe_glob (v := .int 40) rfl g40 ⟨t40, rfl⟩)))))) pss_never pss_nil)
      (pss_cons (ps_if (pt_not (pt_val (GA.pe_allG (kk := 1) (k := 2) hr rfl G.all boot_all TB rfl scRowsFor.nd rfl (GA.genS_by (show GA.genSB (defScope sRowsFor) ["marks", "lengths", "length"] _ "length" = true by decide +kernel)) (pi_tup (pv 1))
            (fun A s H ex code hr2 => C8.pe_c N hr2 (by decide) rfl (pa_cons (pv 2) (pa_cons pe_int (pa_cons (pe_glob (v := .int 12) rfl g12 ⟨t12, rfl⟩) pa_nil))))))) pss_never pss_nil)
      (pss_one (ps_ret (C8.pe_c C hr (by decide) rfl (pa_cons (pv 0) (pa_cons (pv 1) pa_nil))))))), ?_⟩
    have hlen : (List.replicate n (V.int (l : Nat))).length = n := List.length_replicate ..
    refine ⟨_, rfl, b, rfl, by omega, hb4, ?_⟩
    refine ⟨_, rfl, .ref a, .ty "tuple", _, _, true, rfl, .ty _, sqT_ty hS, kit_ty (by decide +kernel), true, rfl, iteF ?_⟩
    refine ⟨_, rfl, a, _, rfl, .inr hS, 1, n, rfl, by rw [hlen], _, rfl, ?_⟩
    rw [decide_eq_true (show (1 : Int) ≤ (n : Nat) by omega)]
    refine iteT ⟨(n : Nat), 40, by rw [hlen], rfl, decide (((n : Nat) : Int) ≤ 40), rfl, ?_⟩
    rw [decide_eq_true (show ((n : Nat) : Int) ≤ 40 by omega)]
    refine iteF ?_
    refine ⟨_, rfl, a, rfl, ⟨_, hS⟩, ht.g PF hP, fun H2 hT => ?_⟩
    have g2 : Gr t H H2 := ht.tabbed hP hT
    refine ⟨_, ⟨(List.replicate n (V.int (l : Nat))).length, by rw [Nat.zero_add], g2⟩, turns_tup (fun H' => Gr t H H') (fun H' g' => g'.sqT hS) (fun j x H' hx g' => ?_) (fun H' g' => ⟨true, rfl, iteF ?_⟩)⟩
    · have hj := (List.getElem?_eq_some_iff.mp hx).1
      rw [hlen] at hj
      rw [List.getElem?_replicate, if_pos hj] at hx
      obtain rfl : V.int (l : Nat) = x := Option.some.inj hx
      exact ⟨_, rfl, l, 1, 12, rfl, by omega, by omega, true, rfl, iteT g'⟩
    · exact ⟨_, rfl, _, rfl, b, n, l, a, rfl, g'.sqT hS, hb, hb4, hn, hnb, hl, g'.ok, fun H3 u g3 hu hm => q H3 u (g'.trans g3) hu hm⟩
/-! ### loud_table -/
def lenOf (b n : Nat) : Nat := if n = 0 then 1 else lng b n
structure LoudT (m : Nat) (M : List Sta) (T : List Rs) : Prop where
  len : T.length = M.length
  each : ∀ (i : Nat) (s : Sta) (u : Rs), M[i]? = some s → T[i]? = some u → u.2.map (·.2) = (List.range s.2.length).map fun i => rowN m i (lenOf m s.2.length)
def powB : Bool := (List.range 5).all fun b => (List.range 7).all fun n => !(decide (2 ≤ b)) || decide (n ≤ b ^ lenOf b n)
theorem powB_ok : powB = true := by decide +kernel
theorem le_pow (b : Nat) (hb : b < 5) (n : Nat) (hn : n < 7) (h1 : 2 ≤ b) : n ≤ b ^ lenOf b n := by
  have h := List.all_eq_true.mp (List.all_eq_true.mp powB_ok b (List.mem_range.mpr hb)) n (List.mem_range.mpr hn)
  rw [decide_eq_true h1] at h
  simpa using h
theorem lenOf_le (b n : Nat) : lenOf b n ≤ 3 := by
  unfold lenOf
  split
  · decide
  · exact lng_le b n
theorem rep_flat {α : Type} (n : Nat) (x : α) : (List.replicate ((n : Nat) : Int).toNat [x]).flatten = List.replicate n x := by
  rw [Int.toNat_natCast]
  induction n with
  | zero => rfl
  | succ n ih =>
    rw [List.replicate_succ, List.flatten_cons, ih, List.replicate_succ] <;> rfl
/-- length = longest_of(marks, len(state)) if state else 1 -/
theorem lou_len {K : PySem.W.Frag} {H : Hp} {σ : L2.St} {R : VK} {a : Addr} {xs : List V} {m : Nat} (h3 : σ[3]? = some (some (.ref a))) (h1 : σ[1]? = some (some (.int (m : Nat)))) (hS : SqT K H a xs) (hm2 : 2 ≤ m) (hm4 : m ≤ 4) (h6 : xs.length ≤ 6)
    (hR : R (.int (lenOf m xs.length : Nat)) H) : tIf (fun σ H Q => tVar 3 σ H fun x H' => ∃ k, TruV K x H' k ∧ Q k H') (tCall spLongest [] C8.E0 (tCons (tVar 1) (tCons (tCB (rLenK K) (tCons (tVar 3) tNil)) tNil))) (tC (.int 1)) σ H R := by
  refine ⟨_, h3, _, .inr (.inl ⟨_, hS, rfl⟩), ?_⟩
  cases xs with
  | nil => exact hR
  | cons x xs =>
    have e : lenOf m (x :: xs).length = lng m (x :: xs).length := if_neg (Nat.succ_ne_zero _)
    rw [e] at hR
    exact ⟨_, h1, _, h3, a, _, rfl, .inr hS, m, _, rfl, hm2, hm4, Nat.succ_le_succ (Nat.zero_le _), h6, hR⟩
abbrev sLoud : Stmt := topS 39
theorem scLoud : FnScope ["machine", "marks", "found", "state", "length"] ["machine", "marks"] (defScope sLoud) := ⟨rfl, rfl, rfl, by decide +kernel, rfl, by decide +kernel, by decide +kernel⟩
def spLoud (K : PySem.W.Frag) (t : Tb) : Sp := fun vs H Q _ => ∃ (a : Addr) (m : Nat) (M : List Sta), vs = [.ref a, .int (m : Nat)] ∧ MachAt K H a M ∧ GoodM M ∧ 2 ≤ m ∧ m ≤ 4 ∧ TOk t H ∧
  ∀ (H' : Hp) (b : Addr) (T : List Rs), Gr t H H' → TabAt K H' b T → LoudT m M T → Q (.ref b) H'
theorem ok_loud {c : Value} (G : Gb mg) (F : Df K mg "loud_table" sLoud ["machine", "marks"] [] c) (M1 : C8.Cal P w K mg base 5 "need_machine" (spNeedMachine K t) []) (M2 : C8.Cal P w K mg base 2 "need_marks" spMarks []) (L : C8.Cal P w K mg base 2 "longest_of" spLongest [])
    (C : C8.Cal P w K mg base 2 "canonical" (spCanon K t) []) : C8.Cal P w K mg base 6 "loud_table" (spLoud K t) [] := by
  refine F.cal (k := 5) scLoud (fun vs H Q E h => ?_) (fun f A outer s H vs Q E hr h => ?_)
  · obtain ⟨a, m, M, rfl, _⟩ := h
    rfl
  · obtain ⟨a, m, M, rfl, hM, gM, hm2, hm4, ht, q⟩ := h
    obtain ⟨t8, g8⟩ := G.row
    refine ⟨_, pss_cons (ps_expr (C8.pe_c M1 hr (by decide) rfl (pa_cons (pv 0) pa_nil))) (pss_cons (ps_expr (C8.pe_c M2 hr (by decide) rfl (pa_cons (pv 1) pa_nil)))
      (pss_cons (ps_set (i := 2) scLoud.nd rfl (.inl rfl) (pe_lst pa_nil))
      (pss_cons (ps_for PassesOwn.never rfl (pi_tup (pv 0)) (pg_name (i := 3) scLoud.nd rfl (.inl rfl))
        (pss_cons (ps_set (i := 4) scLoud.nd rfl (.inl rfl) (pe_ifExp (pt_truth (pv 3) (fun _ => rfl)) (C8.pe_c L hr (by decide) rfl (pa_cons (pv 1) (pa_cons (pe_callB (call_lenK K rfl) rfl G.len boot_len (pa_cons (pv 3) pa_nil)) pa_nil))) pe_int))
        (pss_cons (ps_if (PW.pt (pw_or (pt_cmp (pc_isN (pv 4))) (pw_or1 (pt_cmpR op_gt (pv 4) (pe_glob (v := .int 8) rfl g8 ⟨t8, rfl⟩) (nomark _))))) pss_never pss_nil)
        (pss_one (ps_expr (pe_bm PySem.F.plainAttrs_list PySem.F.slot_list_append PySem.F.type_list_append mt_append (pv 2)
          (pa_cons (C8.pe_c C hr (by decide) rfl (pa_cons (pv 1) (pa_cons (pe_op GO.op_repA (pe_tup (pa_cons (pv 4) pa_nil)) (pe_callB call_len_seq rfl G.len boot_len (pa_cons (pv 3) pa_nil))) pa_nil))) pa_nil)))))))
      (pss_one (ps_ret (pe_tupleOf rfl G.tuple (pv 2))))))), ?_⟩
    refine ⟨_, rfl, a, M, rfl, hM, gM, ht, fun H1 g1 => ?_⟩
    refine ⟨_, rfl, m, rfl, by omega, hm4, ?_⟩
    refine ⟨Nat.zero_le _, fun l nl => ?_⟩
    have hlM : (M.map fun (s : Sta) => V.ref s.1).length = M.length := List.length_map ..
    have gl := g1.new (o := .lst []) nl
    have nl0 : H l = none := g1.free l nl
    refine ⟨_, rfl, a, rfl, ⟨_, gl.sqT hM.1⟩, ?_⟩
    refine for_tup (xs := M.map fun (s : Sta) => V.ref s.1) (fun i σ H' => ∃ (y3 y4 : Option V) (T : List Rs), σ = [some (.ref a), some (.int (m : Nat)), some (.ref l), y3, y4] ∧ Gr t H H' ∧ H' l = some (.lst (T.map fun u => V.ref u.1)) ∧ T.length = i ∧ (∀ u ∈ T, RsAt K H' u) ∧
        ∀ (j : Nat) (s : Sta) (u : Rs), M[j]? = some s → T[j]? = some u → u.2.map (·.2) = (List.range s.2.length).map fun i => rowN m i (lenOf m s.2.length))
      ⟨none, none, [], rfl, gl, upd_same, rfl, (fun u hu => by cases hu), fun j s u _ h => by simp at h⟩ (fun i σ H' _ hv => ?_) (fun i x σ H' hx hv => ?_) (fun σ H' hv => ?_)
    · obtain ⟨_, _, _, _, g, _⟩ := hv
      exact g.sqT hM.1
    · obtain ⟨y3, y4, T, rfl, g, el, hTl, hT, hTe⟩ := hv
      have hi : i < M.length := by
        have := (List.getElem?_eq_some_iff.mp hx).1
        omega
      obtain rfl : V.ref M[i].1 = x := by
        rw [List.getElem?_map, List.getElem?_eq_getElem hi] at hx
        exact Option.some.inj hx
      have mm : M[i] ∈ M := List.getElem_mem hi
      have hS := ((hM.gr g).2 _ mm).1
      have hSl : (M[i].2.map fun (o : Opt) => V.ref o.1).length = M[i].2.length := List.length_map ..
      have h6 := gM.opts _ mm
      have hle := lenOf_le m M[i].2.length
      have hpow := le_pow m (by omega) M[i].2.length (by omega) hm2
      refine lou_len (m := m) rfl rfl hS hm2 hm4 (by rw [hSl]; exact h6) ?_
      rw [hSl]
      refine ⟨_, rfl, _, rfl, iteF ⟨_, rfl, _, 8, rfl, rfl, _, rfl, ?_⟩⟩
      rw [decide_eq_false (show ¬ (8 : Int) < ((lenOf m M[i].2.length : Nat) : Int) by omega)]
      refine iteF ?_
      have fin : ∀ (H3 : Hp) (u : Rs), Gr t H' H3 → RsAt K H3 u → u.2.map (·.2) = ((List.range M[i].2.length).map fun j => rowN m j (lenOf m M[i].2.length)) → ∃ l' xs y, V.ref l = .ref l' ∧ [V.ref u.1] = [y] ∧ H3 l' = some (.lst xs) ∧ xs.length < sizeLine ∧
          ∃ (y3 y4 : Option V) (T : List Rs), [some (.ref a), some (.int (m : Nat)), some (.ref l), some (.ref M[i].1), some (.int (lenOf m M[i].2.length : Nat))] = [some (.ref a), some (.int (m : Nat)), some (.ref l), y3, y4] ∧ Gr t H (upd H3 l' (.lst (xs ++ [y]))) ∧
            (upd H3 l' (.lst (xs ++ [y]))) l = some (.lst (T.map fun u => V.ref u.1)) ∧ T.length = i + 1 ∧ (∀ u ∈ T, RsAt K (upd H3 l' (.lst (xs ++ [y]))) u) ∧ ∀ (j : Nat) (s : Sta) (u : Rs), M[j]? = some s → T[j]? = some u → u.2.map (·.2) = (List.range s.2.length).map fun i => rowN m i (lenOf m s.2.length) := fun H3 u g3 hu hm => by
        have el3 : H3 l = some (.lst (T.map fun u => V.ref u.1)) := g3.ext _ _ el (fun ps z => by cases z)
        have st : ∀ {p : Addr} {ys : List V}, SqT K H3 p ys → SqT K (upd H3 l (.lst ((T.map fun u => V.ref u.1) ++ [V.ref u.1]))) p ys := fun h => sqT_upd h el3 (fun ys z => by cases z) (fun ob ys z => by cases z)
        refine ⟨l, _, _, rfl, rfl, el3, small1000 (by rw [List.length_map]; have := gM.few; omega), some (.ref M[i].1), some (.int (lenOf m M[i].2.length : Nat)), T ++ [u], rfl, (g.trans g3).put nl0 el3 (fun ps z => by cases z) (fun φ z => by cases z), ?_, by rw [List.length_append, hTl] <;> rfl, fun u' hu' => ?_, fun j s u' hs hu' => ?_⟩
        · rw [upd_same, List.map_append] <;> rfl
        · rcases List.mem_append.mp hu' with z | z
          · have h := (hT u' z).gr g3
            exact ⟨st h.1, fun r hr => st (h.2 r hr)⟩
          · rw [List.mem_singleton.mp z]
            exact ⟨st hu.1, fun r hr => st (hu.2 r hr)⟩
        · by_cases hj : j < i
          · rw [List.getElem?_append_left (by omega)] at hu'
            exact hTe j s u' hs hu'
          · have hj2 := (List.getElem?_eq_some_iff.mp hu').1
            rw [List.length_append] at hj2
            have hj3 : j < T.length + 1 := hj2
            obtain rfl : j = i := by omega
            rw [List.getElem?_append_right (by omega), hTl, Nat.sub_self] at hu'
            obtain rfl : u = u' := Option.some.inj hu'
            rw [List.getElem?_eq_getElem hi] at hs
            obtain rfl : M[j] = s := Option.some.inj hs
            exact hm
      refine ⟨.ref l, rfl, .inl ⟨rfl, _, .inl (.inl el)⟩, _, rfl, _, rfl, Nat.le_of_lt (small1000 (show 1 ≤ 1000 by decide)), fun p0 np0 => ?_⟩
      have g0 : Gr t H' (upd H' p0 (.tup [V.int (lenOf m M[i].2.length : Nat)])) := g.ok.gr.new np0
      refine ⟨_, rfl, M[i].1, _, rfl, .inr (g0.sqT hS), p0, (M[i].2.length : Nat), _, rfl, congrArg (fun z : Nat => V.int (z : Nat)) hSl, sqT_fun upd_same, (fun z => by cases z), by omega, by omega, (show 1 ≤ 1000 by decide), fun k1 => ?_, fun _ p np => ?_⟩
      · have e1 : M[i].2.length = 1 := by omega
        refine ⟨m, M[i].2.length, lenOf m M[i].2.length, p0, rfl, ?_, hm2, hm4, h6, hpow, hle, g0.ok, fun H3 u g3 hu hm => fin H3 u (g0.trans g3) hu hm⟩
        have e2 : List.replicate M[i].2.length (V.int (lenOf m M[i].2.length : Nat)) = [V.int (lenOf m M[i].2.length : Nat)] := by
          rw [show List.replicate M[i].2.length (V.int (lenOf m M[i].2.length : Nat)) = List.replicate 1 (V.int (lenOf m M[i].2.length : Nat)) from congrArg (fun z => List.replicate z _) e1] <;> rfl
        rw [e2]
        exact sqT_fun upd_same
      · have g5 := g0.new (o := .tup (List.replicate ((M[i].2.length : Nat) : Int).toNat [V.int (lenOf m M[i].2.length : Nat)]).flatten) np
        refine ⟨m, M[i].2.length, lenOf m M[i].2.length, p, rfl, ?_, hm2, hm4, h6, hpow, hle, g5.ok, fun H3 u g3 hu hm => fin H3 u (g5.trans g3) hu hm⟩
        refine sqT_fun ?_
        rw [upd_same, rep_flat]
    · obtain ⟨y3, y4, T, rfl, g, el, hTl, hT, hTe⟩ := hv
      refine ⟨_, rfl, .inl ⟨l, _, rfl, .inl (.inl el), fun p np => ?_⟩⟩
      have s1 : Same H' (upd H' p (.tup (T.map fun u => V.ref u.1))) := same_new np
      exact q _ p T (g.new np) ⟨sqT_fun upd_same, fun u hu => ⟨GS.sqT_ext (hT u hu).1 (LamX.ExtN.of s1), fun r hr => GS.sqT_ext ((hT u hu).2 r hr) (LamX.ExtN.of s1)⟩⟩ ⟨by rw [hTl, hlM], hTe⟩
end
end LT

set_option Elab.async false
set_option linter.all false
set_option maxRecDepth 100000
set_option maxHeartbeats 4000000
/-! the law's own helpers -/
namespace LT
open PySem PySem.Spec PyProof.Rows L2
/-! ### the law's row: a list of the script, a place and two numbers; it alone is written -/
def LRow (H : Hp) (r s : Addr) : Prop := ∃ (c : Nat) (j k : Int), H r = some (.lst [.ref s, .int (c : Nat), .int j, .int k])
structure Kp (r : Addr) (H H' : Hp) : Prop where
  keep : ∀ b o, b ≠ r → H b = some o → H' b = some o
  free : ∀ b, H' b = none → H b = none
section
variable {H H1 H2 : Hp} {K : PySem.W.Frag} {r s : Addr} {t : Tb}
theorem Kp.refl : Kp r H H := ⟨fun _ _ _ h => h, fun _ h => h⟩
theorem Kp.trans (a : Kp r H H1) (b : Kp r H1 H2) : Kp r H H2 := ⟨fun x o n h => b.keep x o n (a.keep x o n h), fun x h => a.free x (b.free x h)⟩
theorem Kp.new {p : Addr} {o : HO} (a : Kp r H H1) (h : H1 p = none) : Kp r H (upd H1 p o) := ⟨fun x u n hx => by
  have h1 := a.keep x u n hx
  rw [upd_ne (ne_of_none h1 h)]
  exact h1, fun x hx => a.free x (upd_none hx)⟩
/-- a thing that is new since H is written -/
theorem Kp.put {p : Addr} {o : HO} (a : Kp r H H1) (h : H p = none) : Kp r H (upd H1 p o) := ⟨fun x u n hx => by
  rw [upd_ne (ne_of_none hx h)]
  exact a.keep x u n hx, fun x hx => a.free x (upd_none hx)⟩
theorem Kp.row {o : HO} (a : Kp r H H1) (h : H r ≠ none) : Kp r H (upd H1 r o) := ⟨fun x u n hx => by
  rw [upd_ne n]
  exact a.keep x u n hx, fun x hx => a.free x (upd_none hx)⟩
theorem Kp.sqT {p : Addr} {xs : List V} (a : Kp r H H1) (l : LRow H r s) (h : SqT K H p xs) : SqT K H1 p xs := by
  obtain ⟨c, j, k, e⟩ := l
  rcases h with (h | ⟨ob, h⟩) | h
  · exact .inl (.inl (a.keep _ _ (ne_of h e (fun z => by cases z)) h))
  · exact .inl (.inr ⟨ob, a.keep _ _ (ne_of h e (fun z => by cases z)) h⟩)
  · exact .inr h
/-- a list of ints is not the row -/
theorem Kp.ints {p : Addr} {ns : List Int} (a : Kp r H H1) (l : LRow H r s) (h : SqL K H p (ns.map V.int)) : SqL K H1 p (ns.map V.int) := by
  obtain ⟨c, j, k, e⟩ := l
  rcases h with (h | ⟨ob, h⟩) | h
  · refine .inl (.inl (a.keep _ _ (ne_of h e (fun z => ?_)) h))
    injection z with z
    cases ns with
    | nil => cases z
    | cons n ns =>
      injection z with z1 z2
      cases z1
  · exact .inl (.inr ⟨ob, a.keep _ _ (ne_of h e (fun z => by cases z)) h⟩)
  · exact .inr h
theorem Kp.tok (a : Kp r H H1) (l : LRow H r s) (h : TOk t H) : TOk t H1 := by
  obtain ⟨c, j, k, e⟩ := l
  refine ⟨fun P hP => ?_, ?_, h.n⟩
  · obtain ⟨ps, h1, h2⟩ := h.g P hP
    exact ⟨ps, a.keep _ _ (ne_of h1 e (fun z => by cases z)) h1, h2⟩
  · obtain ⟨ps, h1, h2, h3⟩ := h.l
    refine ⟨ps, a.keep _ _ (ne_of h1 e (fun z => by cases z)) h1, h2, fun pos cv hc => ?_⟩
    obtain ⟨c, e1, e2⟩ := h3 pos cv hc
    exact ⟨c, e1, a.keep _ _ (ne_of e2 e (fun z => by unfold LamX.CodeO at z; cases z)) e2⟩
theorem Kp.sta {st : Sta} (a : Kp r H H1) (l : LRow H r s) (h : StaAt K H st) : StaAt K H1 st := ⟨a.sqT l h.1, fun o ho => a.sqT l (h.2 o ho)⟩
theorem sta_upd {p : Addr} {st : Sta} {xs : List V} {o' : HO} (h : StaAt K H st) (e : H p = some (.lst xs)) : StaAt K (upd H p o') st :=
  ⟨sqT_upd h.1 e (fun ys z => by cases z) (fun ob ys z => by cases z), fun o ho => sqT_upd (h.2 o ho) e (fun ys z => by cases z) (fun ob ys z => by cases z)⟩
theorem sta_new {p : Addr} {st : Sta} {o' : HO} (h : StaAt K H st) (e : H p = none) : StaAt K (upd H p o') st :=
  ⟨GS.sqT_ext h.1 (LamX.ExtN.of (same_new e)), fun o ho => GS.sqT_ext (h.2 o ho) (LamX.ExtN.of (same_new e))⟩
end
section
variable {P : Program} {w : World} {K : PySem.W.Frag} {mg : Str → Option Value} {base : Heap} {t : Tb}
/-! ### _law_taken -/
abbrev sTaken : Stmt := topS 41
theorem scTaken : FnScope ["_law_row", "_law_many", "_law_found", "_law_cell"] ["_law_row", "_law_many"] (defScope sTaken) := ⟨rfl, rfl, rfl, by decide +kernel, rfl, by decide +kernel, by decide +kernel⟩
def spTaken (K : PySem.W.Frag) : Sp := fun vs H Q _ => ∃ (r s : Addr) (ns : List Int) (m : Nat), vs = [.ref r, .int (m : Nat)] ∧ LRow H r s ∧ SqL K H s (ns.map V.int) ∧ 1 ≤ m ∧ m ≤ 1000 ∧ ∀ (v : Nat) (H' : Hp), v < m → Kp r H H' → LRow H' r s → Q (.int (v : Nat)) H'
theorem mod_nat (x : Int) (m : Nat) (h : 1 ≤ m) : ∃ v : Nat, x % (m : Int) = (v : Nat) ∧ v < m := by
  have h1 := Int.emod_nonneg x (show (m : Int) ≠ 0 by omega)
  have h2 := Int.emod_lt_of_pos x (show (0 : Int) < m by omega)
  exact ⟨(x % (m : Int)).toNat, by omega, by omega⟩
theorem ok_taken {c : Value} (G : Gb mg) (F : Df K mg "_law_taken" sTaken ["_law_row", "_law_many"] [] c) : C8.Cal P w K mg base 1 "_law_taken" (spTaken K) [] := by
  refine F.cal (k := 0) scTaken (fun vs H Q E h => ?_) (fun f A outer s H vs Q E hr h => ?_)
  · obtain ⟨r, s, ns, m, rfl, _⟩ := h
    rfl
  · obtain ⟨r, s, ns, m, rfl, hl, hs, h1, h2, q⟩ := h
    have hl0 := hl
    obtain ⟨c, j, k, e⟩ := hl
    have er : H r ≠ none := fun z => by
      rw [e] at z
      cases z
    refine ⟨_, pss_cons (ps_if (pt_cmpR op_gt (pe_ix ix_list (pv 0) pe_int (fun _ _ => rfl)) pe_int (nomark _))
          (pss_cons (ps_set (i := 2) scTaken.nd rfl (.inl rfl) (pe_op op_mod (pe_callTy call_int1 rfl G.int boot_int (pa_cons (pe_ix ix_list (pv 0) pe_int (fun _ _ => rfl)) pa_nil)) (pv 1)))
          (pss_cons (ps_asg (pe_op op_fdiv (pe_ix ix_list (pv 0) pe_int (fun _ _ => rfl)) (pv 1)) (pg_sub (pv 0) pe_int set_list))
          (pss_one (ps_ret (pv 2))))) pss_nil)
      (pss_cons (ps_asg (pe_op op_add (pe_ix ix_list (pv 0) pe_int (fun _ _ => rfl)) pe_int) (pg_sub (pv 0) pe_int set_list))
      (pss_cons (ps_if (pt_cmpR op_gt (pe_ix ix_list (pv 0) pe_int (fun _ _ => rfl)) (pe_callB call_len_seq rfl G.len boot_len (pa_cons (pe_ix ix_list (pv 0) pe_int (fun _ _ => rfl)) pa_nil)) (nomark _))
          (pss_cons (ps_asg (pe_op op_mod (pe_callTy call_int1 rfl G.int boot_int (pa_cons (pe_op op_add (pe_op op_mul (pe_ix ix_list (pv 0) pe_int (fun _ _ => rfl)) pe_int) pe_int) pa_nil)) pe_int) (pg_sub (pv 0) pe_int set_list))
          (pss_one (ps_ret (pe_op op_mod (pe_callTy call_int1 rfl G.int boot_int (pa_cons (pe_op op_fdiv (pe_ix ix_list (pv 0) pe_int (fun _ _ => rfl)) pe_int) pa_nil)) (pv 1))))) pss_nil)
      (pss_cons (ps_set (i := 3) scTaken.nd rfl (.inl rfl) (pe_ix ix_list (pe_ix ix_list (pv 0) pe_int (fun _ _ => rfl)) (pe_op op_sub (pe_ix ix_list (pv 0) pe_int (fun _ _ => rfl)) pe_int) (fun _ _ => rfl)))
      (pss_cons (ps_asg (pe_op op_mod (pe_callTy call_int1 rfl G.int boot_int (pa_cons (pe_op op_add (pe_op op_add (pe_op op_mul (pe_ix ix_list (pv 0) pe_int (fun _ _ => rfl)) pe_int) (pv 3)) pe_int) pa_nil)) pe_int) (pg_sub (pv 0) pe_int set_list))
      (pss_cons (ps_if (pt_cmpR op_ge (pv 3) (pe_op op_pow pe_int pe_int) (nomark _)) (pss_one (ps_asg (pe_op op_fdiv (pv 3) (pv 1)) (pg_sub (pv 0) pe_int set_list))) pss_nil)
      (pss_one (ps_ret (pe_op op_mod (pe_callTy call_int1 rfl G.int boot_int (pa_cons (pv 3) pa_nil)) (pv 1))))))))), ?_⟩
    refine ⟨_, rfl, r, _, 3, _, rfl, rfl, .inl (.inl e), rfl, k, 0, rfl, rfl, _, rfl, ite2 (fun hk => ?_) (fun _ => ?_)⟩
    · refine ⟨_, rfl, r, _, 3, _, rfl, rfl, .inl (.inl e), rfl, .inl ⟨k, rfl, _, rfl, k, m, rfl, rfl, by show (0 : Int) < m; omega, ?_⟩⟩
      refine ⟨_, rfl, r, _, 3, _, rfl, rfl, .inl (.inl e), rfl, _, rfl, k, m, rfl, rfl, ⟨by omega, by omega⟩, _, rfl, r, _, 3, 3, rfl, rfl, e, rfl, _, rfl, ?_⟩
      obtain ⟨v, hv, hvm⟩ := mod_nat k m h1
      show Q (.int (k % (m : Nat))) _
      rw [hv]
      exact q v _ hvm (Kp.refl.row er) ⟨c, j, k / (m : Nat), upd_same⟩
    · refine ⟨_, rfl, r, _, 1, _, rfl, rfl, .inl (.inl e), rfl, c, 1, rfl, rfl, _, rfl, r, _, 1, 1, rfl, rfl, e, rfl, ?_⟩
      have e1 : (upd H r (.lst [.ref s, .int ((c : Int) + 1), .int j, .int k])) r = some (.lst [.ref s, .int ((c : Int) + 1), .int j, .int k]) := upd_same
      have k1 : Kp r H (upd H r (.lst [.ref s, .int ((c : Int) + 1), .int j, .int k])) := Kp.refl.row er
      have hs1 := k1.ints hl0 hs
      refine ⟨_, rfl, r, _, 1, _, rfl, rfl, .inl (.inl e1), rfl, _, rfl, r, _, 0, _, rfl, rfl, .inl (.inl e1), rfl, s, _, rfl, .inl hs1, (c : Int) + 1, ((ns.map V.int).length : Nat), rfl, rfl, _, rfl, ite2 (fun hc => ?_) (fun hc => ?_)⟩
      · refine ⟨_, rfl, r, _, 2, _, rfl, rfl, .inl (.inl e1), rfl, j, 48271, rfl, rfl, .inr ⟨by decide, by decide⟩, _, 11, rfl, rfl, .inl ⟨_, rfl, _, 2147483647, rfl, rfl, by show (0 : Int) < 2147483647; decide, _, rfl, r, _, 2, 2, rfl, rfl, e1, rfl, ?_⟩⟩
        have e2 : (upd (upd H r (.lst [.ref s, .int ((c : Int) + 1), .int j, .int k])) r (.lst [.ref s, .int ((c : Int) + 1), .int ((j * 48271 + 11) % 2147483647), .int k])) r = some (.lst [.ref s, .int ((c : Int) + 1), .int ((j * 48271 + 11) % 2147483647), .int k]) := upd_same
        refine ⟨_, rfl, r, _, 2, _, rfl, rfl, .inl (.inl e2), rfl, _, 7, rfl, rfl, ⟨by decide, by decide⟩, .inl ⟨_, rfl, _, rfl, _, m, rfl, rfl, by show (0 : Int) < m; omega, ?_⟩⟩
        obtain ⟨v, hv, hvm⟩ := mod_nat ((j * 48271 + 11) % 2147483647 / 7) m h1
        show Q (.int ((j * 48271 + 11) % 2147483647 / 7 % (m : Nat))) _
        rw [hv]
        exact q v _ hvm (k1.row er) ⟨c + 1, _, _, e2⟩
      · have hc2 : ¬ (((ns.map V.int).length : Nat) : Int) < (c : Int) + 1 := fun z => hc (decide_eq_true z)
        have hcl : c < (ns.map V.int).length := by omega
        have hcn : c < ns.length := by rw [List.length_map] at hcl; exact hcl
        have ec : atI (ns.map V.int) ((c : Int) + 1 - 1) = some (.int ns[c]) := by
          rw [Int.add_sub_cancel]
          exact atI_nat (by rw [List.getElem?_map, List.getElem?_eq_getElem hcn] <;> rfl)
        generalize ns[c] = x at ec
        refine ⟨_, rfl, r, _, 0, _, rfl, rfl, .inl (.inl e1), rfl, _, rfl, r, _, 1, _, rfl, rfl, .inl (.inl e1), rfl, (c : Int) + 1, 1, rfl, rfl, s, _, (c : Int) + 1 - 1, .int x, rfl, rfl, hs1, ec, ?_⟩
        refine ⟨_, rfl, r, _, 2, _, rfl, rfl, .inl (.inl e1), rfl, j, 48271, rfl, rfl, .inr ⟨by decide, by decide⟩, _, rfl, _, x, rfl, rfl, _, 11, rfl, rfl, .inl ⟨_, rfl, _, 2147483647, rfl, rfl, by show (0 : Int) < 2147483647; decide, _, rfl, r, _, 2, 2, rfl, rfl, e1, rfl, ?_⟩⟩
        have e2 : (upd (upd H r (.lst [.ref s, .int ((c : Int) + 1), .int j, .int k])) r (.lst [.ref s, .int ((c : Int) + 1), .int ((j * 48271 + x + 11) % 2147483647), .int k])) r = some (.lst [.ref s, .int ((c : Int) + 1), .int ((j * 48271 + x + 11) % 2147483647), .int k]) := upd_same
        obtain ⟨v, hv, hvm⟩ := mod_nat x m h1
        refine ⟨_, rfl, 10, 18, rfl, rfl, ⟨by decide, by decide, by decide⟩, _, _, rfl, rfl, _, rfl, ite2 (fun _ => ?_) (fun _ => ?_)⟩
        · refine ⟨_, rfl, _, rfl, x, m, rfl, rfl, ⟨by omega, by omega⟩, _, rfl, r, _, 3, 3, rfl, rfl, e2, rfl, ?_⟩
          refine ⟨_, rfl, .inl ⟨x, rfl, _, rfl, x, m, rfl, rfl, by show (0 : Int) < m; omega, ?_⟩⟩
          show Q (.int (x % (m : Nat))) _
          rw [hv]
          exact q v _ hvm ((k1.row er).row er) ⟨c + 1, _, _, upd_same⟩
        · refine ⟨_, rfl, .inl ⟨x, rfl, _, rfl, x, m, rfl, rfl, by show (0 : Int) < m; omega, ?_⟩⟩
          show Q (.int (x % (m : Nat))) _
          rw [hv]
          exact q v _ hvm (k1.row er) ⟨c + 1, _, _, e2⟩
/-! ### _law_pick -/
abbrev sPick : Stmt := topS 42
theorem scPick : FnScope ["_law_row", "_law_things"] ["_law_row", "_law_things"] (defScope sPick) := ⟨rfl, rfl, rfl, by decide +kernel, rfl, by decide +kernel, by decide +kernel⟩
def spPick (K : PySem.W.Frag) : Sp := fun vs H Q _ => ∃ (r s p : Addr) (ns : List Int) (xs : List V), vs = [.ref r, .ref p] ∧ LRow H r s ∧ SqL K H s (ns.map V.int) ∧ p ≠ r ∧ H p = some (.lst xs) ∧ 1 ≤ xs.length ∧ xs.length ≤ 1000 ∧
  ∀ (x : V) (H' : Hp), x ∈ xs → Kp r H H' → LRow H' r s → Q x H'
theorem ok_pick {c : Value} (G : Gb mg) (F : Df K mg "_law_pick" sPick ["_law_row", "_law_things"] [] c) (T : C8.Cal P w K mg base 1 "_law_taken" (spTaken K) []) : C8.Cal P w K mg base 2 "_law_pick" (spPick K) [] := by
  refine F.cal (k := 1) scPick (fun vs H Q E h => ?_) (fun f A outer s H vs Q E hr h => ?_)
  · obtain ⟨r, s, p, ns, xs, rfl, _⟩ := h
    rfl
  · obtain ⟨r, s, p, ns, xs, rfl, hl, hs, hp, ep, h1, h2, q⟩ := h
    refine ⟨_, pss_one (ps_ret (pe_ix ix_list (pv 1) (C8.pe_c T hr (by decide) rfl (pa_cons (pv 0) (pa_cons (pe_callB call_len_seq rfl G.len boot_len (pa_cons (pv 1) pa_nil)) pa_nil))) (fun _ _ => rfl))), ?_⟩
    refine ⟨_, rfl, _, rfl, _, rfl, p, _, rfl, .inl (.inl (.inl ep)), r, s, ns, xs.length, rfl, hl, hs, h1, h2, fun v H1 hv kp hl1 => ?_⟩
    exact ⟨p, xs, (v : Nat), xs[v], rfl, rfl, .inl (.inl (kp.keep _ _ hp ep)), atI_nat (List.getElem?_eq_getElem hv), q _ H1 (List.getElem_mem hv) kp hl1⟩
/-! ### _law_machine -/
def wordsV : List V := [.non, .str "a", .str "b", .str "yes", .str "no", .str "ab"]
theorem words_good : ∀ x ∈ wordsV, GoodW x := by
  intro x hx
  have ok : ∀ z ∈ ([("a" : Str), "b", "yes", "no", "ab"] : List Str), okW z := by
    intro z hz
    have h : (decide (1 ≤ z.length) && (decide (z.length ≤ 8) && z.cps.toList.all fun c => ("abcdefghijklmnopqrstuvwxyz" : Str).cps.toList.contains c)) = true := by
      have all : (([("a" : Str), "b", "yes", "no", "ab"] : List Str).all fun z => decide (1 ≤ z.length) && (decide (z.length ≤ 8) && z.cps.toList.all fun c => ("abcdefghijklmnopqrstuvwxyz" : Str).cps.toList.contains c)) = true := by decide +kernel
      exact List.all_eq_true.mp all z hz
    rw [Bool.and_eq_true, Bool.and_eq_true, decide_eq_true_eq, decide_eq_true_eq] at h
    exact ⟨h.1, h.2.1, fun c hc => List.contains_iff_mem.mp (List.all_eq_true.mp h.2.2 c hc)⟩
  have hx' : x = .non ∨ x = .str "a" ∨ x = .str "b" ∨ x = .str "yes" ∨ x = .str "no" ∨ x = .str "ab" := by
    rcases List.mem_cons.mp hx with z | hx
    · exact .inl z
    · rcases List.mem_cons.mp hx with z | hx
      · exact .inr (.inl z)
      · rcases List.mem_cons.mp hx with z | hx
        · exact .inr (.inr (.inl z))
        · rcases List.mem_cons.mp hx with z | hx
          · exact .inr (.inr (.inr (.inl z)))
          · rcases List.mem_cons.mp hx with z | hx
            · exact .inr (.inr (.inr (.inr (.inl z))))
            · exact .inr (.inr (.inr (.inr (.inr (List.mem_singleton.mp hx)))))
  rcases hx' with z | z | z | z | z | z
  · exact .inl z
  · exact .inr ⟨_, z, ok _ (by simp)⟩
  · exact .inr ⟨_, z, ok _ (by simp)⟩
  · exact .inr ⟨_, z, ok _ (by simp)⟩
  · exact .inr ⟨_, z, ok _ (by simp)⟩
  · exact .inr ⟨_, z, ok _ (by simp)⟩
/-- the loop over the states -/
def PvOut (K : PySem.W.Frag) (H : Hp) (r s fo wo : Addr) (n way : Nat) (i : Nat) (σ : L2.St) (H' : Hp) : Prop := ∃ (y7 y8 y9 y10 y11 : Option V) (Ms : List Sta), σ = [some (.ref r), some (.int 5), some (.int 6), some (.int (n : Nat)), some (.ref fo), some (.ref wo), some (.int (way : Nat)), y7, y8, y9, y10, y11] ∧
  Kp r H H' ∧ LRow H' r s ∧ H' fo = some (.lst (Ms.map fun s => V.ref s.1)) ∧ H' wo = some (.lst wordsV) ∧ Ms.length = i ∧ ∀ st ∈ Ms, StaAt K H' st ∧ st.2.length ≤ 6 ∧ ∀ o ∈ st.2, GoodO n o
/-- the loop over a state's options -/
def PvIn (K : PySem.W.Frag) (H : Hp) (r s fo wo lo : Addr) (n way ls i : Nat) (Ms : List Sta) (k : Nat) (σ : L2.St) (H' : Hp) : Prop := ∃ (y10 y11 : Option V) (os : List Opt),
  σ = [some (.ref r), some (.int 5), some (.int 6), some (.int (n : Nat)), some (.ref fo), some (.ref wo), some (.int (way : Nat)), some (.int ((0 : Int) + i)), some (.ref lo), some (.int (ls : Nat)), y10, y11] ∧
  Kp r H H' ∧ LRow H' r s ∧ H' fo = some (.lst (Ms.map fun s => V.ref s.1)) ∧ H' wo = some (.lst wordsV) ∧ H' lo = some (.lst (os.map fun o => V.ref o.1)) ∧ os.length = k ∧ (∀ o ∈ os, OptAt K H' o ∧ GoodO n o) ∧ ∀ st ∈ Ms, StaAt K H' st
/-- state == 0 and way > 0 -/
theorem least_rd {σ : L2.St} {H : Hp} {R : VK} {i w : Int} (h7 : σ[7]? = some (some (.int i))) (h6 : σ[6]? = some (some (.int w))) (hR : ∀ b : Bool, R (.bl b) H) :
    tAndV (tOp rEq (tVar 7) (tC (.int 0))) (tOp (rI0 fun i j => .bl (decide (j < i))) (tVar 6) (tC (.int 0))) σ H R := by
  refine ⟨_, h7, rfl, _, rfl, ite2 (fun _ => ?_) (fun _ => hR false)⟩
  exact ⟨_, h6, _, _, rfl, rfl, hR _⟩
abbrev sMach : Stmt := topS 43
abbrev nMach : List Str := ["_law_row", "_law_most", "_law_options", "_law_many", "_law_found", "_law_words", "_law_way", "_law_state", "_law_lot", "_law_least", "_law_option", "_law_word"]
theorem scMach : FnScope nMach ["_law_row", "_law_most", "_law_options"] (defScope sMach) := ⟨rfl, rfl, rfl, by decide +kernel, rfl, by decide +kernel, by decide +kernel⟩
def spMach (K : PySem.W.Frag) : Sp := fun vs H Q _ => ∃ (r s : Addr) (ns : List Int), vs = [.ref r, .int 5, .int 6] ∧ LRow H r s ∧ SqL K H s (ns.map V.int) ∧
  ∀ (a : Addr) (M : List Sta) (H' : Hp), Kp r H H' → LRow H' r s → MachAt K H' a M → GoodM M → Q (.ref a) H'
theorem ok_mach {c : Value} (G : Gb mg) (F : Df K mg "_law_machine" sMach ["_law_row", "_law_most", "_law_options"] [] c) (T : C8.Cal P w K mg base 1 "_law_taken" (spTaken K) []) (PK : C8.Cal P w K mg base 2 "_law_pick" (spPick K) []) :
    C8.Cal P w K mg base 3 "_law_machine" (spMach K) [] := by
  refine F.cal (k := 2) scMach (fun vs H Q E h => ?_) (fun f A outer s H vs Q E hr h => ?_)
  · obtain ⟨r, s, ns, rfl, _⟩ := h
    rfl
  · obtain ⟨r, s, ns, rfl, hl, hs, q⟩ := h
    refine ⟨_, pss_cons (ps_par (i := 3) (j := 4) rfl scMach.nd rfl rfl (by decide) rfl rfl (pa_cons (pe_op op_add pe_int (C8.pe_c T hr (by decide) rfl (pa_cons (pv 0) (pa_cons (pv 1) pa_nil)))) (pa_cons (pe_lst pa_nil) pa_nil)) rfl)
      (pss_cons (ps_set (i := 5) scMach.nd rfl (.inl rfl) (pe_lst (pa_cons pe_non (pa_cons pe_str (pa_cons pe_str (pa_cons pe_str (pa_cons pe_str (pa_cons pe_str pa_nil))))))))
      (pss_cons (ps_set (i := 6) scMach.nd rfl (.inl rfl) (C8.pe_c T hr (by decide) rfl (pa_cons (pv 0) (pa_cons pe_int pa_nil))))
      (pss_cons (ps_for PassesOwn.never rfl (pi_range1 rfl G.range (pa_cons (pv 3) pa_nil)) (pg_name (i := 7) scMach.nd rfl (.inl rfl))
        (pss_cons (ps_set (i := 8) scMach.nd rfl (.inl rfl) (pe_lst pa_nil))
        (pss_cons (ps_set (i := 9) scMach.nd rfl (.inl rfl) (pe_callTy call_int1 rfl G.int boot_int (pa_cons (pe_and (pe_cmpR op_eq (pv 7) pe_int (nomark _)) (pe_one (pe_cmpR op_gt (pv 6) pe_int (nomark _)))) pa_nil)))
        (pss_cons (ps_for PassesOwn.never rfl (pi_range1 rfl G.range (pa_cons (pe_op op_add (pv 9) (C8.pe_c T hr (by decide) rfl (pa_cons (pv 0) (pa_cons (pe_op op_sub (pe_op op_add (pv 2) pe_int) (pv 9)) pa_nil)))) pa_nil)) (pg_name (i := 10) scMach.nd rfl (.inl rfl))
          (pss_cons (ps_set (i := 11) scMach.nd rfl (.inl rfl) (C8.pe_c PK hr (by decide) rfl (pa_cons (pv 0) (pa_cons (pe_ifExp (pt_cmpR op_lt (pv 6) pe_int (nomark _)) (pv 5) (pe_slice sl_list (pv 5) (po_some pe_int) po_none)) pa_nil))))
          (pss_one (ps_expr (pe_bm PySem.F.plainAttrs_list PySem.F.slot_list_append PySem.F.type_list_append mt_append (pv 8) (pa_cons (pe_tup (pa_cons (C8.pe_c T hr (by decide) rfl (pa_cons (pv 0) (pa_cons (pv 3) pa_nil))) (pa_cons (pv 11) pa_nil))) pa_nil))))))
        (pss_one (ps_expr (pe_bm PySem.F.plainAttrs_list PySem.F.slot_list_append PySem.F.type_list_append mt_append (pv 4) (pa_cons (pe_tupleOf rfl G.tuple (pv 8)) pa_nil))))))))
      (pss_one (ps_ret (pe_tupleOf rfl G.tuple (pv 4))))))), ?_⟩
    obtain ⟨c0, j0, k0, er0⟩ := hl
    have hl : LRow H r s := ⟨c0, j0, k0, er0⟩
    -- 1 + _law_taken(row, 5), []
    refine ⟨_, rfl, _, rfl, r, s, ns, 5, rfl, hl, hs, by decide, by decide, fun n1 H1 hn1 kp1 hl1 => ?_⟩
    refine ⟨1, n1, rfl, rfl, Nat.zero_le _, fun fo nfo => ⟨_, _, rfl, ?_⟩⟩
    have nfo0 : H fo = none := kp1.free fo nfo
    have kp2 : Kp r H (upd H1 fo (.lst [])) := kp1.new nfo
    have rfo : r ≠ fo := ne_of_none er0 nfo0
    -- words
    refine ⟨by show 6 ≤ sizeLine; exact Nat.le_of_lt (small1000 (by decide)), fun wo nwo => ?_⟩
    have nwo0 : H wo = none := kp2.free wo nwo
    have kp3 : Kp r H (upd (upd H1 fo (.lst [])) wo (.lst wordsV)) := kp2.new nwo
    have rwo : r ≠ wo := ne_of_none er0 nwo0
    have fwo : fo ≠ wo := ne_of_none upd_same nwo
    have hl3 : LRow (upd (upd H1 fo (.lst [])) wo (.lst wordsV)) r s := by
      obtain ⟨c, j, k, e⟩ := hl1
      exact ⟨c, j, k, by rw [upd_ne rwo, upd_ne rfo]; exact e⟩
    refine ⟨_, rfl, r, s, ns, 3, rfl, hl3, kp3.ints hl hs, by decide, by decide, fun way H4 hway kp4 hl4 => ?_⟩
    have kp5 : Kp r H H4 := kp3.trans kp4
    have efo : H4 fo = some (.lst []) := kp4.keep _ _ rfo.symm (by rw [upd_ne fwo, upd_same])
    have ewo : H4 wo = some (.lst wordsV) := kp4.keep _ _ rwo.symm upd_same
    have nfo' : fo ≠ wo := fwo
    refine ⟨_, rfl, (1 : Int) + (n1 : Nat), rfl, by omega, by omega, ?_⟩
    refine for_range (PvOut K H r s fo wo (1 + n1) way) ⟨none, none, none, none, none, [], rfl, kp5, hl4, efo, ewo, rfl, fun st hst => by cases hst⟩ (fun i σ H' hi hv => ?_) (fun σ H' hv => ?_)
    · obtain ⟨y7, y8, y9, y10, y11, Ms, rfl, kp, hlr, ef, ew, hMl, hMs⟩ := hv
      have hi5 : i < 5 := by omega
      refine ⟨Nat.zero_le _, fun lo nlo => ?_⟩
      have nlo0 : H lo = none := kp.free lo nlo
      have rlo : r ≠ lo := ne_of_none er0 nlo0
      have flo : fo ≠ lo := ne_of_none ef nlo
      have wlo : wo ≠ lo := ne_of_none ew nlo
      refine least_rd rfl rfl fun b => .inr ⟨b, rfl, ?_⟩
      obtain ⟨ls, els, hls⟩ : ∃ ls : Nat, (if b = true then (1 : Int) else 0) = (ls : Nat) ∧ ls ≤ 1 := by
        cases b
        · exact ⟨0, rfl, by decide⟩
        · exact ⟨1, rfl, by decide⟩
      rw [els]
      have kpa : Kp r H (upd H' lo (.lst [])) := kp.new nlo
      have hla : LRow (upd H' lo (.lst [])) r s := by
        obtain ⟨c, j, k, e⟩ := hlr
        exact ⟨c, j, k, by rw [upd_ne rlo]; exact e⟩
      refine ⟨_, rfl, _, rfl, _, rfl, 6, 1, rfl, rfl, _, rfl, _, (ls : Nat), rfl, rfl, r, s, ns, 7 - ls, congrArg (fun z => [V.ref r, V.int z]) (show (6 : Int) + 1 - (ls : Nat) = ((7 - ls : Nat) : Nat) by omega), hla, kpa.ints hl hs, by omega, by omega, fun v H6 hv6 kp6 hl6 => ?_⟩
      have kpb : Kp r H H6 := kpa.trans kp6
      refine ⟨(ls : Nat), (v : Nat), rfl, rfl, _, rfl, by omega, by omega, ?_⟩
      have ef6 : H6 fo = some (.lst (Ms.map fun s => V.ref s.1)) := kp6.keep _ _ rfo.symm (by rw [upd_ne flo]; exact ef)
      have ew6 : H6 wo = some (.lst wordsV) := kp6.keep _ _ rwo.symm (by rw [upd_ne wlo]; exact ew)
      have el6 : H6 lo = some (.lst []) := kp6.keep _ _ rlo.symm upd_same
      have hM6 : ∀ st ∈ Ms, StaAt K H6 st := fun st hst => kp6.sta hla (sta_new (hMs st hst).1 nlo)
      refine for_range (PvIn K H r s fo wo lo (1 + n1) way ls i Ms) ⟨y10, y11, [], rfl, kpb, hl6, ef6, ew6, el6, rfl, (fun o ho => by cases ho), hM6⟩ (fun k σ H7 hk hv7 => ?_) (fun σ H7 hv7 => ?_)
      · obtain ⟨z10, z11, os, rfl, kp7, hl7, ef7, ew7, el7, hos, ho7, hM7⟩ := hv7
        have hk6 : k < 6 := by omega
        have fin : ∀ (x : V) (H9 : Hp), x ∈ wordsV → Kp r H7 H9 → LRow H9 r s → tBM K "list" rAppend (tVar 8) (tCons (tTup (tCons (tCall (spTaken K) [] C8.E0 (tCons (tVar 0) (tCons (tVar 3) tNil))) (tCons (tVar 11) tNil))) tNil)
            [some (.ref r), some (.int 5), some (.int 6), some (.int ((1 + n1 : Nat) : Nat)), some (.ref fo), some (.ref wo), some (.int (way : Nat)), some (.int ((0 : Int) + i)), some (.ref lo), some (.int (ls : Nat)), some (.int ((0 : Int) + k)), some x] H9
            (fun _ H10 => PvIn K H r s fo wo lo (1 + n1) way ls i Ms (k + 1) [some (.ref r), some (.int 5), some (.int 6), some (.int ((1 + n1 : Nat) : Nat)), some (.ref fo), some (.ref wo), some (.int (way : Nat)), some (.int ((0 : Int) + i)), some (.ref lo), some (.int (ls : Nat)), some (.int ((0 : Int) + k)), some x] H10) := fun x H9 hx kp9 hl9 => by
          have el9 : H9 lo = some (.lst (os.map fun o => V.ref o.1)) := kp9.keep _ _ rlo.symm el7
          refine ⟨_, rfl, .inl ⟨rfl, _, .inl (.inl el9)⟩, _, rfl, _, rfl, r, s, ns, 1 + n1, rfl, hl9, (kp7.trans kp9).ints hl hs, by omega, by omega, fun v2 H10 hv2 kp10 hl10 => ?_⟩
          refine ⟨_, rfl, Nat.le_of_lt (small1000 (show 2 ≤ 1000 by decide)), fun tp ntp => ?_⟩
          have kpz : Kp r H7 H10 := kp9.trans kp10
          have rtp : r ≠ tp := by
            obtain ⟨c, j, k, e⟩ := hl10
            exact ne_of_none e ntp
          have ef10 : H10 fo = some (.lst (Ms.map fun s => V.ref s.1)) := kpz.keep _ _ rfo.symm ef7
          have ew10 : H10 wo = some (.lst wordsV) := kpz.keep _ _ rwo.symm ew7
          have el10 : H10 lo = some (.lst (os.map fun o => V.ref o.1)) := kpz.keep _ _ rlo.symm el7
          have el11 : (upd H10 tp (.tup [V.int (v2 : Nat), x])) lo = some (.lst (os.map fun o => V.ref o.1)) := by
            rw [upd_ne (ne_of_none el10 ntp)]
            exact el10
          have st : ∀ {p : Addr} {ys : List V}, SqT K (upd H10 tp (.tup [V.int (v2 : Nat), x])) p ys → SqT K (upd (upd H10 tp (.tup [V.int (v2 : Nat), x])) lo (.lst ((os.map fun o => V.ref o.1) ++ [V.ref tp]))) p ys := fun h => sqT_upd h el11 (fun ys z => by cases z) (fun ob ys z => by cases z)
          refine ⟨lo, _, _, rfl, rfl, el11, small1000 (by rw [List.length_map]; omega), some (.int ((0 : Int) + k)), some x, os ++ [(tp, (((v2 : Nat) : Int), x))], rfl, (((kp7.trans kpz).new ntp)).put nlo0, ?_, ?_, ?_, ?_, by rw [List.length_append, hos] <;> rfl, fun o ho => ?_, fun s' hs' => ?_⟩
          · obtain ⟨c, j, k, e⟩ := hl10
            exact ⟨c, j, k, by rw [upd_ne rlo, upd_ne rtp]; exact e⟩
          · rw [upd_ne flo, upd_ne (ne_of_none ef10 ntp)]
            exact ef10
          · rw [upd_ne wlo, upd_ne (ne_of_none ew10 ntp)]
            exact ew10
          · rw [upd_same, List.map_append] <;> rfl
          · rcases List.mem_append.mp ho with z | z
            · exact ⟨st (GS.sqT_ext (kpz.sqT hl7 (ho7 o z).1) (LamX.ExtN.of (same_new ntp))), (ho7 o z).2⟩
            · rw [List.mem_singleton.mp z]
              exact ⟨st (sqT_fun upd_same), by show (0 : Int) ≤ (v2 : Nat); omega, by show ((v2 : Nat) : Int) < ((1 + n1 : Nat) : Nat); omega, words_good x hx⟩
          · have h := sta_new (o' := .tup [V.int (v2 : Nat), x]) (kpz.sta hl7 (hM7 s' hs')) ntp
            exact ⟨st h.1, fun o ho => st (h.2 o ho)⟩
        refine ⟨_, rfl, _, rfl, (way : Nat), 2, rfl, rfl, _, rfl, ite2 (fun _ => ?_) (fun _ => ?_)⟩
        · exact ⟨_, rfl, r, s, wo, ns, wordsV, rfl, hl7, kp7.ints hl hs, rwo.symm, ew7, by decide, by decide, fun x H9 hx kp9 hl9 => fin x H9 hx kp9 hl9⟩
        · refine ⟨_, rfl, 1, rfl, wo, wordsV, rfl, .inl (.inl ew7), fun p np => ?_⟩
          have rp : r ≠ p := by
            obtain ⟨c, j, k, e⟩ := hl7
            exact ne_of_none e np
          have hlp : LRow (upd H7 p (.lst (cutV wordsV (some 1) none))) r s := by
            obtain ⟨c, j, k, e⟩ := hl7
            exact ⟨c, j, k, by rw [upd_ne rp]; exact e⟩
          have kpp : Kp r H7 (upd H7 p (.lst (cutV wordsV (some 1) none))) := Kp.refl.new np
          have ecut : cutV wordsV (some 1) none = wordsV.tail := rfl
          exact ⟨r, s, p, ns, wordsV.tail, rfl, hlp, (kp7.trans kpp).ints hl hs, rp.symm, by rw [upd_same, ecut], by decide, by decide, fun x H9 hx kp9 hl9 => fin x H9 (List.mem_of_mem_tail hx) (kpp.trans kp9) hl9⟩
      · obtain ⟨z10, z11, os, rfl, kp7, hl7, ef7, ew7, el7, hos, ho7, hM7⟩ := hv7
        refine ⟨_, rfl, .inl ⟨rfl, _, .inl (.inl ef7)⟩, _, rfl, .inl ⟨lo, _, rfl, .inl (.inl el7), fun tp ntp => ?_⟩⟩
        have rtp : r ≠ tp := by
          obtain ⟨c, j, k, e⟩ := hl7
          exact ne_of_none e ntp
        have ftp : fo ≠ tp := ne_of_none ef7 ntp
        have ef8 : (upd H7 tp (.tup (os.map fun o => V.ref o.1))) fo = some (.lst (Ms.map fun s => V.ref s.1)) := by
          rw [upd_ne ftp]
          exact ef7
        refine ⟨fo, _, _, rfl, rfl, ef8, small1000 (by rw [List.length_map]; omega), some (.int ((0 : Int) + i)), some (.ref lo), some (.int (ls : Nat)), z10, z11, Ms ++ [(tp, os)], rfl, (kp7.new ntp).put nfo0, ?_, ?_, ?_, by rw [List.length_append, hMl] <;> rfl, fun s' hs' => ?_⟩
        · obtain ⟨c, j, k, e⟩ := hl7
          exact ⟨c, j, k, by rw [upd_ne rfo, upd_ne rtp]; exact e⟩
        · rw [upd_same, List.map_append] <;> rfl
        · rw [upd_ne fwo.symm, upd_ne (ne_of_none ew7 ntp)]
          exact ew7
        · rcases List.mem_append.mp hs' with z | z
          · exact ⟨sta_upd (sta_new (hM7 s' z) ntp) ef8, (hMs s' z).2⟩
          · rw [List.mem_singleton.mp z]
            refine ⟨sta_upd ⟨sqT_fun upd_same, fun o ho => GS.sqT_ext (ho7 o ho).1 (LamX.ExtN.of (same_new ntp))⟩ ef8, by show os.length ≤ 6; omega, fun o ho => (ho7 o ho).2⟩
    · obtain ⟨y7, y8, y9, y10, y11, Ms, rfl, kp, hlr, ef, ew, hMl, hMs⟩ := hv
      have hl5 : Ms.length = 1 + n1 := by omega
      refine ⟨_, rfl, .inl ⟨fo, _, rfl, .inl (.inl ef), fun p np => ?_⟩⟩
      have rp : r ≠ p := by
        obtain ⟨c, j, k, e⟩ := hlr
        exact ne_of_none e np
      refine q p Ms _ (kp.new np) ?_ ⟨sqT_fun upd_same, fun st hst => sta_new (hMs st hst).1 np⟩ ⟨by omega, by omega, fun st hst => (hMs st hst).2.1, fun st hst o ho => by rw [hl5]; exact (hMs st hst).2.2 o ho⟩
      obtain ⟨c, j, k, e⟩ := hlr
      exact ⟨c, j, k, by rw [upd_ne rp]; exact e⟩
/-! ### _law_every -/
/-- all rows of k marks below b, in order -/
def evr (b : Nat) : Nat → List (List Int)
  | 0 => [[]]
  | k + 1 => (evr b k).flatMap fun r => (List.range b).map fun m => r ++ [((m : Nat) : Int)]
theorem flatMap_take {α β : Type} (f : α → List β) : ∀ (l : List α) (i : Nat) (x : α), l[i]? = some x → (l.take i).flatMap f ++ f x = (l.take (i + 1)).flatMap f
  | [], _, _, h => by simp at h
  | a :: l, 0, x, h => by
    have e : a = x := Option.some.inj h
    rw [e]
    simp
  | a :: l, i + 1, x, h => by
    have ih := flatMap_take f l i x h
    simp only [List.take_succ_cons, List.flatMap_cons, List.append_assoc]
    rw [ih]
def evrB : Bool := (List.range 5).all fun b => (List.range 4).all fun k => decide ((evr b k).length ≤ 64) && (evr b k).all fun r => decide (r.length ≤ 3)
theorem evrB_ok : evrB = true := by decide +kernel
theorem evr_len (b : Nat) (hb : b < 5) (k : Nat) (hk : k < 4) : (evr b k).length ≤ 64 ∧ ∀ r ∈ evr b k, r.length ≤ 3 := by
  have h := List.all_eq_true.mp (List.all_eq_true.mp evrB_ok b (List.mem_range.mpr hb)) k (List.mem_range.mpr hk)
  rw [Bool.and_eq_true, decide_eq_true_eq] at h
  exact ⟨h.1, fun r hr => of_decide_eq_true (List.all_eq_true.mp h.2 r hr)⟩
theorem op_catK {X : Cx} (K : PySem.W.Frag) (e : X.K = K) : OpR X (binaryOp .Add) (rCatA K) := by
  subst e
  exact op_catA
abbrev sEvery : Stmt := topS 44
abbrev nEvery : List Str := ["_law_marks", "_law_length", "_law_found", "_law_place", "_law_longer", "_law_one", "_law_mark"]
theorem scEvery : FnScope nEvery ["_law_marks", "_law_length"] (defScope sEvery) := ⟨rfl, rfl, rfl, by decide +kernel, rfl, by decide +kernel, by decide +kernel⟩
def RowsL (K : PySem.W.Frag) (H : Hp) (p : Addr) (rs : List Rw) : Prop := H p = some (.lst (rs.map fun r => V.ref r.1)) ∧ ∀ r ∈ rs, RowAt K H r
def spEvery (K : PySem.W.Frag) (t : Tb) : Sp := fun vs H Q _ => ∃ b l : Nat, vs = [.int (b : Nat), .int (l : Nat)] ∧ b ≤ 4 ∧ l ≤ 3 ∧ TOk t H ∧ ∀ (H' : Hp) (p : Addr) (rs : List Rw), Gr t H H' → RowsL K H' p rs → rs.map (·.2) = evr b l → Q (.ref p) H'
theorem ok_every {c : Value} (G : Gb mg) (F : Df K mg "_law_every" sEvery ["_law_marks", "_law_length"] [] c) : C8.Cal P w K mg base 1 "_law_every" (spEvery K t) [] := by
  refine F.cal (k := 0) scEvery (fun vs H Q E h => ?_) (fun f A outer s H vs Q E hr h => ?_)
  · obtain ⟨b, l, rfl, _⟩ := h
    rfl
  · obtain ⟨b, l, rfl, hb, hl, ht, q⟩ := h
    refine ⟨_, pss_cons (ps_set (i := 2) scEvery.nd rfl (.inl rfl) (pe_lst (pa_cons (pe_tup pa_nil) pa_nil)))
      (pss_cons (ps_for PassesOwn.never rfl (pi_range1 rfl G.range (pa_cons (pv 1) pa_nil)) (pg_name (i := 3) scEvery.nd rfl (.inl rfl))
        (pss_cons (ps_set (i := 4) scEvery.nd rfl (.inl rfl) (pe_lst pa_nil))
        (pss_cons (ps_for PassesOwn.never rfl (pi_list (pv 2)) (pg_name (i := 5) scEvery.nd rfl (.inr rfl))
          (pss_one (ps_set (i := 4) scEvery.nd rfl (.inl rfl) (pe_op op_cat (pv 4) (pe_lc (own := [("_law_mark", 6)]) (g := gName 6) (tt := tYes) rfl scEvery.nd (pi_range1 rfl G.range (pa_cons (pv 0) pa_nil))
            (blkOk_by (own := [("_law_mark", 6)]) (N := nEvery) (sc := defScope sEvery) (by decide +kernel)) (fun _ _ _ _ _ => pg_name (i := 6) scEvery.nd rfl (Or.inl rfl)) (fun _ _ _ _ _ => pts_nil)
            (fun _ _ _ _ _ => pe_op (op_catK K rfl) (pv 5) (pe_tup (pa_cons (pv 6) pa_nil))))))))
        (pss_one (ps_set (i := 2) scEvery.nd rfl (.inl rfl) (pv 4))))))
      (pss_one (ps_ret (pv 2)))), ?_⟩
    refine ⟨Nat.zero_le _, fun p0 np0 => ⟨Nat.le_of_lt (small1000 (show 1 ≤ 1000 by decide)), fun fo nfo => ?_⟩⟩
    refine ⟨_, rfl, (l : Nat), rfl, by omega, by omega, ?_⟩
    refine for_range (n := (l : Int).toNat) (fun k σ H' => ∃ (y3 y4 y5 y6 : Option V) (p : Addr) (rs : List Rw), σ = [some (.int (b : Nat)), some (.int (l : Nat)), some (.ref p), y3, y4, y5, y6] ∧ Gr t H H' ∧ RowsL K H' p rs ∧ rs.map (·.2) = evr b k)
      ⟨none, none, none, none, fo, [(p0, [])], rfl, (ht.gr.new np0).new nfo, ⟨upd_same, fun r hr => ?_⟩, rfl⟩ (fun k σ H' hk hv => ?_) (fun σ H' hv => ?_)
    · rw [List.mem_singleton.mp hr]
      exact GS.sqT_ext (show SqT K (upd H p0 (.tup [])) p0 [] from sqT_fun upd_same) (LamX.ExtN.of (same_new nfo))
    · obtain ⟨y3, y4, y5, y6, p, rs, rfl, g, ⟨ep, hR⟩, hrs⟩ := hv
      have hk3 : k < 3 := by omega
      obtain ⟨h64, h3⟩ := evr_len b (by omega) k (by omega)
      have hrl : rs.length = (evr b k).length := by rw [← hrs, List.length_map]
      refine ⟨Nat.zero_le _, fun lo nlo => ?_⟩
      have ga := g.ok.gr.new (o := .lst []) nlo
      have epa : (upd H' lo (.lst [])) p = some (.lst (rs.map fun r => V.ref r.1)) := ga.ext _ _ ep (fun ps z => by cases z)
      refine ⟨_, rfl, p, rfl, ⟨_, .inl (.inl epa)⟩, ?_⟩
      refine for_list (xs := rs.map fun (r : Rw) => V.ref r.1) (fun i σ H2 => ∃ (y5 y6 : Option V) (q : Addr) (qs : List Rw), σ = [some (.int (b : Nat)), some (.int (l : Nat)), some (.ref p), some (.int ((0 : Int) + k)), some (.ref q), y5, y6] ∧ Gr t H' H2 ∧ RowsL K H2 q qs ∧ qs.length = i * b ∧
          qs.map (·.2) = ((evr b k).take i).flatMap fun r => (List.range b).map fun m => r ++ [((m : Nat) : Int)])
        ⟨y5, y6, lo, [], rfl, ga, ⟨upd_same, (fun r hr => by cases hr)⟩, by rw [Nat.zero_mul] <;> rfl, rfl⟩ (fun i σ H2 _ hv => ?_) (fun i x σ H2 hx hv => ?_) (fun σ H2 hv => ?_)
      · obtain ⟨_, _, _, _, _, g2, _⟩ := hv
        exact .inl (.inl (g2.ext _ _ ep (fun ps z => by cases z)))
      · obtain ⟨z5, z6, q0, qs, rfl, g2, ⟨eq0, hQ⟩, hql, hqs⟩ := hv
        have hi : i < rs.length := by
          have := (List.getElem?_eq_some_iff.mp hx).1
          rw [List.length_map] at this
          exact this
        obtain rfl : V.ref rs[i].1 = x := by
          rw [List.getElem?_map, List.getElem?_eq_getElem hi] at hx
          exact Option.some.inj hx
        have mr : rs[i] ∈ rs := List.getElem_mem hi
        have hrow : SqT K H2 rs[i].1 (rs[i].2.map V.int) := g2.sqT (hR _ mr)
        have eri : (evr b k)[i]? = some rs[i].2 := by
          rw [← hrs, List.getElem?_map, List.getElem?_eq_getElem hi] <;> rfl
        have hr3 : rs[i].2.length ≤ 3 := h3 _ (List.mem_of_getElem? eri)
        refine ⟨_, rfl, _, rfl, (b : Nat), rfl, by omega, by omega, fun D nD => ?_⟩
        refine lc_range (n := (b : Int).toNat) (fun j H3 => ∃ ws : List Rw, Gr t H2 H3 ∧ H3 D = some (.lst (ws.map fun r => V.ref r.1)) ∧ ws.length = j ∧ (∀ r ∈ ws, RowAt K H3 r) ∧ ws.map (·.2) = (List.range j).map fun m => rs[i].2 ++ [((m : Nat) : Int)])
          ⟨[], g2.ok.gr.new nD, upd_same, rfl, (fun r hr => by cases hr), rfl⟩ (fun j H3 hj hv => ?_) (fun H3 hv => ?_)
        · obtain ⟨ws, g3, eD, hwl, hW, hws⟩ := hv
          have hrow3 := g3.sqT hrow
          have fin2 : ∀ (pw : Addr) (H4 : Hp), Gr t H3 H4 → SqT K H4 pw ((rs[i].2 ++ [((j : Nat) : Int)]).map V.int) → ∃ acc, H4 D = some (.lst acc) ∧ acc.length < sizeLine ∧ ∃ ws : List Rw, Gr t H2 (upd H4 D (.lst (acc ++ [V.ref pw]))) ∧
              (upd H4 D (.lst (acc ++ [V.ref pw]))) D = some (.lst (ws.map fun r => V.ref r.1)) ∧ ws.length = j + 1 ∧ (∀ r ∈ ws, RowAt K (upd H4 D (.lst (acc ++ [V.ref pw]))) r) ∧ ws.map (·.2) = (List.range (j + 1)).map fun m => rs[i].2 ++ [((m : Nat) : Int)] := fun pw H4 g4 hpw => by
            have eD4 : H4 D = some (.lst (ws.map fun r => V.ref r.1)) := g4.ext _ _ eD (fun ps z => by cases z)
            refine ⟨_, eD4, small1000 (by rw [List.length_map]; omega), ws ++ [(pw, rs[i].2 ++ [((j : Nat) : Int)])], (g3.trans g4).put nD eD4 (fun ps z => by cases z) (fun φ z => by cases z), ?_, by rw [List.length_append, hwl] <;> rfl, fun r hr => ?_, ?_⟩
            · rw [upd_same, List.map_append] <;> rfl
            · rcases List.mem_append.mp hr with z | z
              · exact sqT_upd (g4.sqT (hW r z)) eD4 (fun ys z => by cases z) (fun ob ys z => by cases z)
              · rw [List.mem_singleton.mp z]
                exact sqT_upd hpw eD4 (fun ys z => by cases z) (fun ob ys z => by cases z)
            · rw [List.map_append, hws, List.range_succ, List.map_append] <;> rfl
          have z0 : (0 : Int) + (j : Nat) = (j : Nat) := by omega
          have ej : (rs[i].2 ++ [((j : Nat) : Int)]).map V.int = rs[i].2.map V.int ++ [V.int ((0 : Int) + (j : Nat))] := by
            rw [z0, List.map_append] <;> rfl
          refine ⟨rfl, _, rfl, _, rfl, Nat.le_of_lt (small1000 (show 1 ≤ 1000 by decide)), fun p1 np1 => ?_⟩
          have g4 := g3.ok.gr.new (o := .tup [V.int ((0 : Int) + (j : Nat))]) np1
          have hrow4 : SqT K (upd H3 p1 (.tup [V.int ((0 : Int) + (j : Nat))])) rs[i].1 (rs[i].2.map V.int) := g4.sqT hrow3
          refine ⟨rs[i].1, p1, _, _, rfl, rfl, hrow4, sqT_fun upd_same, ?_, fun hz => ?_, (fun _ hz => by cases hz), fun _ _ p2 np2 => ?_⟩
          · rw [List.length_map]
            exact Nat.le_of_lt (small1000 (by show rs[i].2.length + 1 ≤ 1000; omega))
          · refine fin2 p1 _ g4 ?_
            rw [ej, hz]
            exact sqT_fun upd_same
          · refine fin2 p2 _ (g4.new np2) ?_
            rw [ej]
            exact sqT_fun upd_same
        · obtain ⟨ws, g3, eD, hwl, hW, hws⟩ := hv
          rw [Int.toNat_natCast] at hws hwl
          have eq3 : H3 q0 = some (.lst (qs.map fun r => V.ref r.1)) := g3.ext _ _ eq0 (fun ps z => by cases z)
          have hib : i * b ≤ 64 * 4 := Nat.mul_le_mul (by omega) hb
          refine ⟨q0, D, _, _, rfl, rfl, eq3, eD, Nat.le_of_lt (small1000 (by rw [List.length_map, List.length_map]; omega)), fun pq npq => ?_⟩
          refine ⟨some (.ref rs[i].1), z6, pq, qs ++ ws, rfl, (g2.trans g3).new npq, ⟨by rw [upd_same, List.map_append], fun r hr => ?_⟩, by rw [List.length_append, hql, hwl, Nat.succ_mul], ?_⟩
          · refine GS.sqT_ext ?_ (LamX.ExtN.of (same_new npq))
            rcases List.mem_append.mp hr with z | z
            · exact g3.sqT (hQ r z)
            · exact hW r z
          · rw [List.map_append, hqs, hws]
            exact flatMap_take _ (evr b k) i _ eri
      · obtain ⟨z5, z6, q0, qs, rfl, g2, hQ, hql, hqs⟩ := hv
        refine ⟨_, rfl, some (.int ((0 : Int) + k)), some (.ref q0), z5, z6, q0, qs, rfl, g.trans g2, hQ, ?_⟩
        rw [hqs, List.length_map, hrl, List.take_length] <;> rfl
    · obtain ⟨y3, y4, y5, y6, p, rs, rfl, g, hR, hrs⟩ := hv
      rw [Int.toNat_natCast] at hrs
      exact ⟨_, rfl, q H' p rs g hR hrs⟩
end
end LT

set_option Elab.async false
set_option linter.all false
set_option maxRecDepth 100000
set_option maxHeartbeats 4000000
/-! the law -/
namespace LT
open PySem PySem.Spec PyProof.Rows L2
/-! ### the mathematics: at most six rows, two to four marks -/
def rowsC (m n : Nat) : List (List Int) := (List.range n).map fun i => rowN m i (lenOf m n)
def rowsB (m n : Nat) : Bool := decide (rowsC m n).Nodup && ((rowsC m n).all (fun r => decide (r.length = lenOf m n) && r.all fun x => decide (0 ≤ x) && decide (x < (m : Int))) &&
  (decide (n = 0) || (decide ((evr m (lng m n)).take n = rowsC m n) && (decide (lng m n ≤ 1) || decide ((evr m (lng m n - 1)).length < n)))))
theorem rowsB_ok : ([2, 3, 4].all fun m => (List.range 7).all fun n => rowsB m n) = true := by decide +kernel
structure RowsOk (m n : Nat) : Prop where
  nod : (rowsC m n).Nodup
  len : ∀ r ∈ rowsC m n, r.length = lenOf m n
  good : ∀ r ∈ rowsC m n, ∀ x ∈ r, 0 ≤ x ∧ x < (m : Int)
  pre : n ≠ 0 → (evr m (lng m n)).take n = rowsC m n
  few : n ≠ 0 → 1 < lng m n → (evr m (lng m n - 1)).length < n
theorem rows_ok (m n : Nat) (h2 : 2 ≤ m) (h4 : m ≤ 4) (hn : n ≤ 6) : RowsOk m n := by
  have hm : m ∈ [2, 3, 4] := by
    have : m = 2 ∨ m = 3 ∨ m = 4 := by omega
    rcases this with z | z | z <;> rw [z] <;> decide
  have h := List.all_eq_true.mp (List.all_eq_true.mp rowsB_ok m hm) n (List.mem_range.mpr (by omega))
  unfold rowsB at h
  rw [Bool.and_eq_true, Bool.and_eq_true, decide_eq_true_eq] at h
  obtain ⟨a, b, c⟩ := h
  have b' : ∀ r ∈ rowsC m n, r.length = lenOf m n ∧ ∀ x ∈ r, 0 ≤ x ∧ x < (m : Int) := fun r hr => by
    have q := List.all_eq_true.mp b r hr
    rw [Bool.and_eq_true, decide_eq_true_eq] at q
    refine ⟨q.1, fun x hx => ?_⟩
    have q2 := List.all_eq_true.mp q.2 x hx
    rw [Bool.and_eq_true, decide_eq_true_eq, decide_eq_true_eq] at q2
    exact q2
  have c' : n ≠ 0 → (evr m (lng m n)).take n = rowsC m n ∧ (lng m n ≤ 1 ∨ (evr m (lng m n - 1)).length < n) := fun hne => by
    rw [decide_eq_false hne, Bool.false_or, Bool.and_eq_true, decide_eq_true_eq, Bool.or_eq_true, decide_eq_true_eq, decide_eq_true_eq] at c
    exact c
  exact ⟨a, fun r hr => (b' r hr).1, fun r hr => (b' r hr).2, fun hne => (c' hne).1, fun hne h1 => (c' hne).2.resolve_left (by omega)⟩
theorem lenOf_pos (m n : Nat) : 1 ≤ lenOf m n := by
  unfold lenOf
  split
  · decide
  · exact lng_pos m n
theorem LoudT.goodS {m : Nat} {M : List Sta} {T : List Rs} (h : LoudT m M T) (h2 : 2 ≤ m) (h4 : m ≤ 4) (g : GoodM M) {i : Nat} {st : Sta} {u : Rs} (es : M[i]? = some st) (eu : T[i]? = some u) : u.2.map (·.2) = rowsC m st.2.length ∧ u.2.length = st.2.length ∧ GoodS m u := by
  have e : u.2.map (·.2) = rowsC m st.2.length := h.each i st u es eu
  have ms : st ∈ M := List.mem_of_getElem? es
  have h6 := g.opts st ms
  have R := rows_ok m st.2.length h2 h4 h6
  have el : u.2.length = st.2.length := by
    have q := congrArg List.length e
    rw [List.length_map] at q
    unfold rowsC at q
    rw [List.length_map, List.length_range] at q
    exact q
  have mem : ∀ r ∈ u.2, r.2 ∈ rowsC m st.2.length := fun r hr => by
    rw [← e]
    exact List.mem_map.mpr ⟨r, hr, rfl⟩
  have l1 := lenOf_pos m st.2.length
  have l3 := lenOf_le m st.2.length
  exact ⟨e, el, fun r hr => ⟨by rw [R.len _ (mem r hr)]; exact l1, by rw [R.len _ (mem r hr)]; omega, R.good _ (mem r hr)⟩, ⟨_, fun r hr => R.len _ (mem r hr)⟩, by rw [e]; exact R.nod, by omega⟩
theorem LoudT.good {m : Nat} {M : List Sta} {T : List Rs} (h : LoudT m M T) (h2 : 2 ≤ m) (h4 : m ≤ 4) (g : GoodM M) : GoodT m M T := by
  refine ⟨h.len, fun i s u es eu => (h.goodS h2 h4 g es eu).2.1, fun u hu => ?_⟩
  obtain ⟨i, hi, e⟩ := List.mem_iff_getElem.mp hu
  have hiM : i < M.length := by rw [← h.len]; exact hi
  exact (h.goodS h2 h4 g (List.getElem?_eq_getElem hiM) (by rw [List.getElem?_eq_getElem hi, e])).2.2
theorem cut_take (xs : List V) (n : Nat) : cutV xs none (some (n : Nat)) = xs.take n := by
  unfold cutV
  rw [show HT.sIx xs.length xs.length (some ((n : Nat) : Int)) = min n xs.length from HT.sIx_nat _ _ _]
  show List.take (min n xs.length - 0) (xs.drop 0) = xs.take n
  rw [Nat.sub_zero, List.drop_zero]
  exact (List.take_eq_take_min ..).symm
theorem eqv_rowsT (rs : List (List Int)) : PyData.eqv (.tuple (rs.map dR)) (.tuple (rs.map dR)) = true := by
  have h := eqv_rows rs
  simp only [PyData.eqv, h]
theorem eqv_rowsL (rs : List (List Int)) : PyData.eqv (.list (rs.map dR)) (.list (rs.map dR)) = true := by
  have h := eqv_rows rs
  simp only [PyData.eqv, h]
theorem eqv_none (rs : List (List Int)) : PyData.eqv (.tuple (rs.map dR)) (.tuple []) = decide (rs = []) := by
  cases rs with
  | nil => simp [PyData.eqv, PyData.eqvAll]
  | cons r rs => simp [PyData.eqv, PyData.eqvAll]
theorem Kp.mach {K : PySem.W.Frag} {H H1 : Hp} {r s p : Addr} {M : List Sta} (a : Kp r H H1) (l : LRow H r s) (h : MachAt K H p M) : MachAt K H1 p M := ⟨a.sqT l h.1, fun st hs => a.sta l (h.2 st hs)⟩
/-- (v,) * k -/
def rRepG (K : PySem.W.Frag) (t : Tb) : R2 := fun x y H Q => ∃ (l : Addr) (k : Nat) (v : V), x = .ref l ∧ y = .int (k : Nat) ∧ SqT K H l [v] ∧ k ≤ 1000 ∧ TOk t H ∧ ∀ (p : Addr) (H' : Hp), Gr t H H' → SqT K H' p (List.replicate k v) → Q (.ref p) H'
theorem op_repG {X : Cx} (t : Tb) : OpR X (binaryOp .Mult) (rRepG X.K t) := by
  intro pins s σ H x y v u Q I rx ry h
  obtain ⟨l, k, z, rfl, rfl, hs, hk, ht, q⟩ := h
  refine GO.op_repA pins s σ H _ _ v u Q I rx ry ⟨l, (k : Nat), [z], rfl, rfl, hs, (fun e => by cases e), by omega, by omega, (show 1 ≤ 1000 by decide), fun k1 => ?_, fun _ p np => ?_⟩
  · have e1 : k = 1 := by omega
    subst e1
    exact q l H ht.gr hs
  · refine q p _ (ht.gr.new np) (sqT_fun ?_)
    rw [upd_same, rep_flat]
section
variable {P : Program} {w : World} {K : PySem.W.Frag} {mg : Str → Option Value} {base : Heap} {t : Tb}
abbrev sLaw : Stmt := topS 45
abbrev nLaw : List Str := ["_law_script", "_law_row", "_law_machine_here", "_law_marks", "_law_found", "_law_state", "_law_rows", "_law_length", "_law_every_here"]
theorem scLaw : FnScope nLaw ["_law_script"] (defScope sLaw) := ⟨rfl, rfl, rfl, by decide +kernel, rfl, by decide +kernel, by decide +kernel⟩
def spLaw (K : PySem.W.Frag) (t : Tb) : Sp := fun vs H Q _ => ∃ (s : Addr) (ns : List Int), vs = [.ref s] ∧ SqL K H s (ns.map V.int) ∧ TOk t H ∧ ∀ H', Q (.bl true) H'
theorem law_walk (G : Gb mg) (TK : C8.Cal P w K mg base 1 "_law_taken" (spTaken K) []) (MC : C8.Cal P w K mg base 3 "_law_machine" (spMach K) []) (LD : C8.Cal P w K mg base 6 "loud_table" (spLoud K t) []) (LS : C8.Cal P w K mg base 3 "least_longest" spLongest [])
    (EV : C8.Cal P w K mg base 1 "_law_every" (spEvery K t) []) (RF : C8.Cal P w K mg base 3 "rows_for" (spRowsFor K t) []) (IA : C8.Cal P w K mg base 7 "is_apart" (spIsApart K t) [])
    (f : Addr) (c : Value) (A : Around) (outer : List Env) (s0 : Shared) (H : Hp) (vs : List V) (Q : VK) (E : XK) (hr : Room 7 (A.deeper (envOfC "law" (defScope sLaw) s0.heap.objs.size f c))) (h : spLaw K t vs H Q E) :
    ∃ T, PSs (cxOf CX0 P w K mg base nLaw "law" (defScope sLaw) f c A outer s0 H E).nox (defBody sLaw) T ∧ T { nx := fun _ H' => Q .non H', rt := Q } (start nLaw vs) H := by
  obtain ⟨s, ns, rfl, hs, ht, q⟩ := h
  refine ⟨_, pss_cons (ps_set (i := 1) scLaw.nd rfl (.inl rfl) (pe_lst (pa_cons (pv 0) (pa_cons pe_int (pa_cons pe_int (pa_cons pe_int pa_nil))))))
    (pss_cons (ps_par (i := 2) (j := 3) rfl scLaw.nd rfl rfl (by decide) rfl rfl (pa_cons (C8.pe_c MC hr (by decide) rfl (pa_cons (pv 1) (pa_cons pe_int (pa_cons pe_int pa_nil)))) (pa_cons (pe_op op_add pe_int (C8.pe_c TK hr (by decide) rfl (pa_cons (pv 1) (pa_cons pe_int pa_nil)))) pa_nil)) rfl)
    (pss_cons (ps_set (i := 4) scLaw.nd rfl (.inl rfl) (C8.pe_c LD hr (by decide) rfl (pa_cons (pv 2) (pa_cons (pv 3) pa_nil))))
    (pss_cons (ps_for PassesOwn.never rfl (RZ.pi_zipA rfl G.zip (pa_cons (pv 2) (pa_cons (pv 4) pa_nil))) (pg_tup rfl (pgs_cons (pg_name (i := 5) scLaw.nd rfl (.inl rfl)) (pgs_cons (pg_name (i := 6) scLaw.nd rfl (.inl rfl)) pgs_nil)))
      (pss_cons (ps_if (PW.pt (pw_or (pt_cmpR op_ne (pe_callB call_len_seq rfl G.len boot_len (pa_cons (pv 6) pa_nil)) (pe_callB call_len_seq rfl G.len boot_len (pa_cons (pv 5) pa_nil)) (nomark _))
          (pw_or1 (pt_cmpR op_ne (GO.pe_lenSetT hr rfl rfl G.len rfl G.set (pv 6)) (pe_callB call_len_seq rfl G.len boot_len (pa_cons (pv 6) pa_nil)) (nomark _))))) pss_never pss_nil)
      (pss_one (ps_if (pt_cmpR (op_neD hr.units) (pv 6) (pe_tup pa_nil) (nomark _))
        (pss_cons (ps_set (i := 7) scLaw.nd rfl (.inl rfl) (C8.pe_c LS hr (by decide) rfl (pa_cons (pv 3) (pa_cons (pe_callB call_len_seq rfl G.len boot_len (pa_cons (pv 6) pa_nil)) pa_nil))))
        (pss_cons (ps_set (i := 8) scLaw.nd rfl (.inl rfl) (C8.pe_c EV hr (by decide) rfl (pa_cons (pv 3) (pa_cons (pv 7) pa_nil))))
        (pss_cons (ps_if (PW.pt (pw_or (pt_cmpR (op_neD hr.units) (pe_callTy call_list_of rfl G.list boot_list (pa_cons (pv 6) pa_nil)) (pe_slice sl_list (pv 8) po_none (po_some (pe_callB call_len_seq rfl G.len boot_len (pa_cons (pv 6) pa_nil)))) (nomark _))
            (pw_or1 (pt_cmpR (op_neD hr.units) (C8.pe_c RF hr (by decide) rfl (pa_cons (pv 3) (pa_cons (pe_op (op_repG t) (pe_tup (pa_cons (pv 7) pa_nil)) (pe_callB call_len_seq rfl G.len boot_len (pa_cons (pv 6) pa_nil))) pa_nil))) (pv 6) (nomark _))))) pss_never pss_nil)
        (pss_one (ps_if (PW.pt (pw_and (pt_cmpR op_gt (pv 7) pe_int (nomark _)) (pw_and1 (pt_cmpR op_ge (pe_callB call_len_seq rfl G.len boot_len (pa_cons (C8.pe_c EV hr (by decide) rfl (pa_cons (pv 3) (pa_cons (pe_op op_sub (pv 7) pe_int) pa_nil))) pa_nil))
            (pe_callB call_len_seq rfl G.len boot_len (pa_cons (pv 6) pa_nil)) (nomark _))))) pss_never pss_nil))))) pss_nil))))
    (pss_one (ps_ret (pe_and (pe_cmpR op_eq (pe_callB call_len_seq rfl G.len boot_len (pa_cons (pv 4) pa_nil)) (pe_callB call_len_seq rfl G.len boot_len (pa_cons (pv 2) pa_nil)) (nomark _))
      (pe_one (pe_cmpR op_isBl (C8.pe_c IA hr (by decide) rfl (pa_cons (pv 2) (pa_cons (pv 3) (pa_cons (pv 4) pa_nil)))) pe_bl (nomark _))))))))), ?_⟩
  -- the row
  refine ⟨_, rfl, Nat.le_of_lt (small1000 (show 4 ≤ 1000 by decide)), fun ro nro => ?_⟩
  have hl1 : LRow (upd H ro (.lst [.ref s, .int 0, .int 7021, .int 0])) ro s := ⟨0, 7021, 0, upd_same⟩
  have hs1 : SqL K (upd H ro (.lst [.ref s, .int 0, .int 7021, .int 0])) s (ns.map V.int) := GS.sqL_ext hs (LamX.ExtN.of (same_new nro))
  have ht1 := ht.same (same_new (o := .lst [.ref s, .int 0, .int 7021, .int 0]) nro)
  -- the machine, the marks
  refine ⟨_, rfl, ro, s, ns, rfl, hl1, hs1, fun a M H2 kp2 hl2 hM2 gM => ?_⟩
  refine ⟨_, rfl, ro, s, ns, 3, rfl, hl2, kp2.ints hl1 hs1, by decide, by decide, fun v H3 hv kp3 hl3 => ?_⟩
  refine ⟨2, (v : Nat), rfl, rfl, _, _, rfl, ?_⟩
  have hM3 : MachAt K H3 a M := kp3.mach hl2 hM2
  have ht3 : TOk t H3 := kp3.tok hl2 (kp2.tok hl1 ht1)
  -- loud_table
  refine ⟨_, rfl, _, rfl, a, 2 + v, M, rfl, hM3, gM, by omega, by omega, ht3, fun Hb b T gb hTb hL => ?_⟩
  have hMb := hM3.gr gb
  have gT := hL.good (by omega) (by omega) gM
  have hm2 : 2 ≤ 2 + v := by omega
  have hm4 : 2 + v ≤ 4 := by omega
  have hlM : (M.map fun (s : Sta) => V.ref s.1).length = M.length := List.length_map ..
  have hlT : (T.map fun (u : Rs) => V.ref u.1).length = M.length := by rw [List.length_map, hL.len]
  -- for .. in zip(..)
  refine ⟨_, rfl, _, rfl, a, b, M.map fun (s : Sta) => V.ref s.1, T.map fun (u : Rs) => V.ref u.1, rfl, .inr ⟨hMb.1, hTb.1, ?_⟩⟩
  refine RZ.for_zipT (xs := M.map fun (s : Sta) => V.ref s.1) (ys := T.map fun (u : Rs) => V.ref u.1) (by rw [hlM, hlT]) (fun i σ H' => ∃ y5 y6 y7 y8, σ = [some (.ref s), some (.ref ro), some (.ref a), some (.int ((2 + v : Nat) : Nat)), some (.ref b), y5, y6, y7, y8] ∧ Gr t Hb H') ⟨none, none, none, none, rfl, gb.ok.gr⟩ (fun i σ H' hv' => ?_) (fun i x y Z σ H' hx hy hv' nZ => ?_) (fun σ H' hv' => ?_)
  · obtain ⟨_, _, _, _, _, g⟩ := hv'
    exact ⟨g.sqT hMb.1, g.sqT hTb.1⟩
  · obtain ⟨y5, y6, y7, y8, rfl, g⟩ := hv'
    have hi : i < M.length := by
      have := (List.getElem?_eq_some_iff.mp hx).1
      rw [hlM] at this
      exact this
    have hiT : i < T.length := by rw [hL.len]; exact hi
    obtain rfl : V.ref M[i].1 = x := by
      rw [List.getElem?_map, List.getElem?_eq_getElem hi] at hx
      exact Option.some.inj hx
    obtain rfl : V.ref T[i].1 = y := by
      rw [List.getElem?_map, List.getElem?_eq_getElem hiT] at hy
      exact Option.some.inj hy
    have mm : M[i] ∈ M := List.getElem_mem hi
    have mt : T[i] ∈ T := List.getElem_mem hiT
    obtain ⟨erows, elen, gS⟩ := hL.goodS hm2 hm4 gM (List.getElem?_eq_getElem hi) (List.getElem?_eq_getElem hiT)
    have h6 := gM.opts _ mm
    have R := rows_ok (2 + v) M[i].2.length hm2 hm4 h6
    have g1 : Gr t Hb (upd H' Z (.tup [V.ref M[i].1, V.ref T[i].1])) := g.new nZ
    have hu : ∀ {H9 : Hp}, Gr t Hb H9 → RsAt K H9 T[i] := fun {H9} g9 => (hTb.gr g9).2 _ mt
    have hn1 : (T[i].2.map fun (r : Rw) => V.ref r.1).length = M[i].2.length := by rw [List.length_map, elen]
    have hn2 : (M[i].2.map fun (o : Opt) => V.ref o.1).length = M[i].2.length := List.length_map ..
    refine ⟨Z, _, rfl, sqT_fun upd_same, rfl, _, _, rfl, _, _, rfl, rfl, ?_⟩
    refine ⟨_, rfl, T[i].1, _, rfl, .inr (hu g1).1, _, rfl, M[i].1, _, rfl, .inr ((hMb.gr g1).2 _ mm).1, rfl, _, rfl, iteNS (by rw [hn1, hn2]) ?_⟩
    refine ⟨_, rfl, T[i].1, T[i].2, rfl, (hu g1).1, (hu g1).2, by rw [elen]; omega, by rw [erows]; exact R.nod, _, rfl, T[i].1, _, rfl, .inr (hu g1).1, rfl, _, rfl, iteNS (by rw [hn1, elen]) ?_⟩
    -- rows != ()
    refine ⟨_, rfl, Nat.zero_le _, fun e0 ne0 => ?_⟩
    have g2 := g1.new (o := .tup []) ne0
    refine ⟨_, .tuple [], .tup (hu g2).1 (dp_rows _ (hu g2).2), .tup (sqT_fun upd_same) .nil, shaped_rowsT _, rfl, _, rfl, ?_⟩
    rw [eqv_none, erows]
    refine ite2 (fun hne => ?_) (fun _ => ⟨_, _, _, _, rfl, g2⟩)
    have hn : M[i].2.length ≠ 0 := fun z => by
      rw [z, show rowsC (2 + v) 0 = [] from rfl] at hne
      exact absurd hne (by decide)
    have eL : lenOf (2 + v) M[i].2.length = lng (2 + v) M[i].2.length := if_neg hn
    have hLp := lng_pos (2 + v) M[i].2.length
    have hL3 := lng_le (2 + v) M[i].2.length
    have hpow := le_pow (2 + v) (by omega) M[i].2.length (by omega) hm2
    rw [eL] at hpow
    -- least_longest
    refine ⟨_, rfl, _, rfl, T[i].1, _, rfl, .inr (hu g2).1, 2 + v, M[i].2.length, congrArg (fun z : Nat => [V.int ((2 + v : Nat) : Nat), V.int (z : Nat)]) hn1, hm2, hm4, by omega, h6, ?_⟩
    -- _law_every
    refine ⟨_, rfl, _, rfl, 2 + v, lng (2 + v) M[i].2.length, rfl, hm4, hL3, g2.ok, fun H5 p5 rs5 g5 hR5 hm5 => ?_⟩
    have g25 := g2.trans g5
    -- list(rows) != every[:len(rows)]
    refine ⟨_, rfl, T[i].1, _, rfl, .inr (hu g25).1, fun l6 nl6 => ?_⟩
    have g6 := g25.new (o := .lst (T[i].2.map fun (r : Rw) => V.ref r.1)) nl6
    have hR6 : SqL K (upd H5 l6 (.lst (T[i].2.map fun (r : Rw) => V.ref r.1))) p5 (rs5.map fun r => V.ref r.1) := .inl (.inl (same_new nl6 _ _ hR5.1))
    refine ⟨_, rfl, _, rfl, T[i].1, _, rfl, .inr (hu g6).1, _, rfl, p5, _, rfl, hR6, fun p7 np7 => ?_⟩
    have g7 := g6.new (o := .lst (cutV (rs5.map fun (r : Rw) => V.ref r.1) none (some ((T[i].2.map fun (r : Rw) => V.ref r.1).length : Nat)))) np7
    have erow5 : (rs5.take M[i].2.length).map (·.2) = rowsC (2 + v) M[i].2.length := by
      rw [List.map_take, hm5]
      exact R.pre hn
    have ecut : cutV (rs5.map fun (r : Rw) => V.ref r.1) none (some ((T[i].2.map fun (r : Rw) => V.ref r.1).length : Nat)) = (rs5.take M[i].2.length).map fun (r : Rw) => V.ref r.1 := by
      rw [cut_take, hn1, List.map_take]
    have dp1 : ∀ {H9 : Hp}, Gr t Hb H9 → DpAll K H9 (T[i].2.map fun (r : Rw) => V.ref r.1) ((rowsC (2 + v) M[i].2.length).map dR) := fun {H9} g9 => by
      rw [← erows]
      exact dp_rows _ (hu g9).2
    have hrow7 : ∀ r ∈ rs5, RowAt K (upd (upd H5 l6 (.lst (T[i].2.map fun (r : Rw) => V.ref r.1))) p7 (.lst (cutV (rs5.map fun (r : Rw) => V.ref r.1) none (some ((T[i].2.map fun (r : Rw) => V.ref r.1).length : Nat))))) r := fun r hr =>
      GS.sqT_ext (hR5.2 r hr) (LamX.ExtN.of ((same_new nl6).trans (same_new np7)))
    refine ⟨.list ((rowsC (2 + v) M[i].2.length).map dR), .list ((rowsC (2 + v) M[i].2.length).map dR), .lst (.inl (.inl (same_new np7 _ _ upd_same))) (dp1 g7), .lst (.inl (.inl upd_same)) ?_, shaped_rowsL _, shaped_rowsL _, _, rfl, ?_⟩
    · rw [ecut, ← erow5]
      exact dp_rows _ fun r hr => by
        rw [← ecut]
        exact hrow7 r (List.mem_of_mem_take hr)
    rw [eqv_rowsL]
    refine iteF ?_
    -- rows_for(..) != rows
    refine ⟨_, rfl, _, rfl, Nat.le_of_lt (small1000 (show 1 ≤ 1000 by decide)), fun p8 np8 => ?_⟩
    have g8 := g7.new (o := .tup [V.int (lng (2 + v) M[i].2.length : Nat)]) np8
    refine ⟨_, rfl, T[i].1, _, rfl, .inr (hu g8).1, p8, M[i].2.length, _, rfl, congrArg (fun z : Nat => V.int (z : Nat)) hn1, sqT_fun upd_same, by omega, g8.ok, fun p9 H9 g9 hp9 => ?_⟩
    have g89 := g8.trans g9
    refine ⟨2 + v, M[i].2.length, lng (2 + v) M[i].2.length, p9, rfl, hp9, hm2, hm4, by omega, h6, hpow, hLp, hL3, g9.ok, fun H10 u10 g10 hu10 hm10 => ?_⟩
    have g90 := g89.trans g10
    have erow10 : u10.2.map (·.2) = rowsC (2 + v) M[i].2.length := by
      rw [hm10]
      unfold rowsC
      rw [eL]
    refine ⟨_, rfl, .tuple ((rowsC (2 + v) M[i].2.length).map dR), .tuple ((rowsC (2 + v) M[i].2.length).map dR), .tup hu10.1 ?_, .tup (hu g90).1 (dp1 g90), shaped_rowsT _, shaped_rowsT _, _, rfl, ?_⟩
    · rw [← erow10]
      exact dp_rows _ hu10.2
    rw [eqv_rowsT]
    refine iteF ?_
    -- length > 1 and ..
    refine ⟨_, rfl, (lng (2 + v) M[i].2.length : Nat), 1, rfl, rfl, _, rfl, ite2 (fun h1 => ?_) (fun _ => iteF ⟨_, _, _, _, rfl, g90⟩)⟩
    have h1 : (1 : Int) < (lng (2 + v) M[i].2.length : Nat) := of_decide_eq_true h1
    refine ⟨_, rfl, _, rfl, (lng (2 + v) M[i].2.length : Nat), 1, rfl, rfl, 2 + v, lng (2 + v) M[i].2.length - 1, congrArg (fun z => [V.int ((2 + v : Nat) : Nat), V.int z]) (show ((lng (2 + v) M[i].2.length : Nat) : Int) - 1 = ((lng (2 + v) M[i].2.length - 1 : Nat) : Nat) by omega), hm4, by omega, g10.ok, fun H11 p11 rs11 g11 hR11 hm11 => ?_⟩
    have g91 := g90.trans g11
    have hl11 : (rs11.map fun (r : Rw) => V.ref r.1).length < M[i].2.length := by
      have e := congrArg List.length hm11
      rw [List.length_map] at e
      rw [List.length_map, e]
      exact R.few hn (by omega)
    refine ⟨p11, _, rfl, .inl (.inl (.inl hR11.1)), _, rfl, T[i].1, _, rfl, .inr (hu g91).1, ((rs11.map fun (r : Rw) => V.ref r.1).length : Nat), ((T[i].2.map fun (r : Rw) => V.ref r.1).length : Nat), rfl, rfl, _, rfl, ?_⟩
    rw [decide_eq_false (show ¬ (((T[i].2.map fun (r : Rw) => V.ref r.1).length : Nat) : Int) ≤ ((rs11.map fun (r : Rw) => V.ref r.1).length : Nat) by rw [hn1]; omega)]
    exact iteF ⟨_, _, _, _, rfl, g91⟩
  · obtain ⟨y5, y6, y7, y8, rfl, g⟩ := hv'
    have hM' := hMb.gr g
    have hT' := hTb.gr g
    refine ⟨_, rfl, b, _, rfl, .inr hT'.1, _, rfl, a, _, rfl, .inr hM'.1, rfl, _, rfl, ?_⟩
    rw [decide_eq_true (show V.int (((T.map fun (u : Rs) => V.ref u.1).length : Nat) : Int) = V.int (((M.map fun (s : Sta) => V.ref s.1).length : Nat) : Int) by rw [hlM, hlT])]
    refine iteT ⟨_, rfl, _, rfl, _, rfl, a, b, 2 + v, M, T, rfl, by omega, hm4, hM', gM, hT', gT, g.ok, fun H9 g9 => ⟨true, true, rfl, rfl, q H9⟩⟩
end
end LT

set_option Elab.async false
set_option linter.all false
set_option maxRecDepth 100000
set_option maxHeartbeats 0
/-! the head: what the top has written; the end -/
namespace LT
open PySem PySem.Spec PyProof.Rows L2
/-- the i-th def of the top, under its name -/
def dOf (i : Nat) (x : Str) (dfl : List He.Dv) : He.DefD := ⟨(x, none), x, x, defArgs (topS i), defBody (topS i), defScope (topS i), dfl, []⟩
def fnL : List He.DefD := [dOf 13 "is_number" [], dOf 14 "need_number" [], dOf 15 "is_word" [], dOf 16 "is_option" [], dOf 17 "need_machine" [], dOf 18 "states_that_come" [], dOf 22 "need_marks" [], dOf 23 "is_row" [.int 8], dOf 24 "need_table" [], dOf 25 "need_house" [], dOf 26 "begins" [], dOf 27 "first_clash" [], dOf 28 "apart_at" [], dOf 29 "is_apart" [], dOf 30 "power" [], dOf 34 "longest_of" [], dOf 35 "row_number" [], dOf 36 "canonical" [], dOf 37 "least_longest" [], dOf 38 "rows_for" [], dOf 39 "loud_table" [], dOf 41 "_law_taken" [], dOf 42 "_law_pick" [], dOf 43 "_law_machine" [], dOf 44 "_law_every" [], dOf 45 "law" []]
def faA : List He.Fa := [.glo "is_number", .glo "need_number", .glo "is_word", .glo "is_option", .glo "need_machine", .glo "states_that_come", .glo "need_marks", .glo "is_row", .glo "need_table", .glo "need_house", .glo "begins", .glo "first_clash", .glo "apart_at", .glo "is_apart", .glo "power", .glo "longest_of", .glo "row_number", .glo "canonical", .glo "least_longest", .glo "rows_for", .glo "loud_table", .glo "_law_taken", .glo "_law_pick", .glo "_law_machine", .glo "_law_every", .glo "law"]
def faB : List He.Fa := [.free "isinstance", .free "int", .free "bool", .free "str", .free "tuple", .free "len", .free "all", .free "enumerate", .free "range", .free "sorted", .free "zip", .free "set", .free "list", .int "MOST_STATES" 40, .int "MOST_OPTIONS" 6, .int "MOST_LETTERS" 8, .int "MOST_MARKS" 4, .int "MOST_ROW" 8, .int "MOST_MANY" 40, .int "MOST_LENGTH" 12, .str "LETTERS" "abcdefghijklmnopqrstuvwxyz"]
def faL : List He.Fa := faA ++ faB
def tfL : List He.Defn := [("is_word", none), ("need_machine", none), ("is_row", none), ("need_table", none), ("rows_for", none), ("canonical", none)]
def exL (K : PySem.W.Frag) : Bool := !((tfL.take 5).map fun p => (He.cT K p).2).contains (He.cT K ("canonical", none)).2
abbrev RL : PySem.W.OpenRow := PySem.W.OpenLaw.row PySem.Challenge.rw_onelife_k21_whole_loud_tables
abbrev hkL : PySem.W.Hook := He.hookX 4 faL fnL [] tfL exL
def obL (s : PySem.W.SharedT) : He.AlX := He.obsX 4 faL fnL [] tfL exL (HandSHeadRun.getT s)
theorem obL_eq (s : PySem.W.SharedT) : obL s = hkL.obs s.abs := He.obsX_eq (HandSHeadRun.getT_eq s)
def looseA : List Str := ["LifeError", "BadMachine", "BadNumber", "BadMarks", "BadTable", "BadLengths", "NoTable", "MOST_STATES", "MOST_OPTIONS", "MOST_LETTERS", "LETTERS", "is_number", "need_number", "is_word", "is_option", "need_machine", "states_that_come", "MOST_MARKS", "MOST_ROW", "need_marks"]
def looseB : List Str := ["is_row", "need_table", "need_house", "begins", "first_clash", "apart_at", "is_apart", "power", "MOST_MANY", "MOST_LENGTH", "longest_of", "row_number", "canonical", "least_longest", "rows_for", "loud_table", "_law_taken", "_law_pick", "_law_machine", "_law_every"]
def looseL : List Str := looseA ++ looseB
theorem run_top (w : World) : HandSHeadRun.RunEq RL (PySem.W.view RL.prog [45]) hkL obL 4000 looseL w := by
  intro os
  kernel_rfl
theorem df_of {K : PySem.W.Frag} {mg : Str → Option Value} {x : Str} {st : Stmt} {ps : List Str} {f : Addr} {fd : FuncData} (F : FunD K x x (defArgs st) (defBody st) (defScope st) [] [] f fd) (g : mg x = some (.ref f))
    (h : ∀ (kV doc pm : Value) (an : Option Addr) (cdv ct : Value) (us : List Value), us.length = ps.length → bindArgs (PySem.W.fnOf x x (defArgs st) (defBody st) (defScope st) .none kV doc pm an cdv ct) ⟨us, []⟩ = pure (ps.zip us)) : Df K mg x st ps [] fd.code :=
  ⟨f, fd, [], [], F, g, F.bindsN h, .nil, rfl⟩
theorem code_ref {K : PySem.W.Frag} {x q : Str} {pr : Arguments} {bd : List Stmt} {sc : Scope} {dd : List V} {kk : List (Str × V)} {fd : FuncData} {p : He.Defn} (F : FunD K x q pr bd sc dd kk (He.fAd K p) fd) : fd.code = .ref (He.codeOf K p) := by
  obtain ⟨oc, od, dV, kV, doc, pm, an, cdv, ct, osl, rfl, lk, hcd, _, _⟩ := F.ex
  obtain ⟨c, e⟩ := He.codeIn_ref hcd
  subst e
  rw [He.codeOf_eq lk rfl] <;> rfl
theorem facts_law {w : World} {K : PySem.W.Frag} {h : Heap} {mg : Str → Option Value} {f : Addr} (X : K.In h) (G : h.Ns mainGlobals mg) (hfa : mg ("law" : Str) = some (.ref f)) (c : He.SaysX faL fnL [] tfL exL w h K) :
    LamX.LawAtS PySem.Challenge.rw_onelife_k21_whole_loud_tables w K CX0 8 63 "_law_script" mg f h := by
  have d := c.t.d
  obtain ⟨fd0, F0⟩ := d.def_ 0 (d := dOf 13 "is_number" []) rfl
  obtain ⟨fd1, F1⟩ := d.def_ 1 (d := dOf 14 "need_number" []) rfl
  obtain ⟨fd2, F2⟩ := d.def_ 2 (d := dOf 15 "is_word" []) rfl
  obtain ⟨fd3, F3⟩ := d.def_ 3 (d := dOf 16 "is_option" []) rfl
  obtain ⟨fd4, F4⟩ := d.def_ 4 (d := dOf 17 "need_machine" []) rfl
  obtain ⟨fd5, F5⟩ := d.def_ 5 (d := dOf 18 "states_that_come" []) rfl
  obtain ⟨fd6, F6⟩ := d.def_ 6 (d := dOf 22 "need_marks" []) rfl
  obtain ⟨fd7, F7⟩ := d.def_ 7 (d := dOf 23 "is_row" [.int 8]) rfl
  obtain ⟨fd8, F8⟩ := d.def_ 8 (d := dOf 24 "need_table" []) rfl
  obtain ⟨fd9, F9⟩ := d.def_ 9 (d := dOf 25 "need_house" []) rfl
  obtain ⟨fd10, F10⟩ := d.def_ 10 (d := dOf 26 "begins" []) rfl
  obtain ⟨fd11, F11⟩ := d.def_ 11 (d := dOf 27 "first_clash" []) rfl
  obtain ⟨fd12, F12⟩ := d.def_ 12 (d := dOf 28 "apart_at" []) rfl
  obtain ⟨fd13, F13⟩ := d.def_ 13 (d := dOf 29 "is_apart" []) rfl
  obtain ⟨fd14, F14⟩ := d.def_ 14 (d := dOf 30 "power" []) rfl
  obtain ⟨fd15, F15⟩ := d.def_ 15 (d := dOf 34 "longest_of" []) rfl
  obtain ⟨fd16, F16⟩ := d.def_ 16 (d := dOf 35 "row_number" []) rfl
  obtain ⟨fd17, F17⟩ := d.def_ 17 (d := dOf 36 "canonical" []) rfl
  obtain ⟨fd18, F18⟩ := d.def_ 18 (d := dOf 37 "least_longest" []) rfl
  obtain ⟨fd19, F19⟩ := d.def_ 19 (d := dOf 38 "rows_for" []) rfl
  obtain ⟨fd20, F20⟩ := d.def_ 20 (d := dOf 39 "loud_table" []) rfl
  obtain ⟨fd21, F21⟩ := d.def_ 21 (d := dOf 41 "_law_taken" []) rfl
  obtain ⟨fd22, F22⟩ := d.def_ 22 (d := dOf 42 "_law_pick" []) rfl
  obtain ⟨fd23, F23⟩ := d.def_ 23 (d := dOf 43 "_law_machine" []) rfl
  obtain ⟨fd24, F24⟩ := d.def_ 24 (d := dOf 44 "_law_every" []) rfl
  obtain ⟨fd25, F25⟩ := d.def_ 25 (d := dOf 45 "law" []) rfl
  have m0 := He.glo_ok X G (d.fact 0 (f := .glo "is_number") rfl)
  have m1 := He.glo_ok X G (d.fact 1 (f := .glo "need_number") rfl)
  have m2 := He.glo_ok X G (d.fact 2 (f := .glo "is_word") rfl)
  have m3 := He.glo_ok X G (d.fact 3 (f := .glo "is_option") rfl)
  have m4 := He.glo_ok X G (d.fact 4 (f := .glo "need_machine") rfl)
  have m5 := He.glo_ok X G (d.fact 5 (f := .glo "states_that_come") rfl)
  have m6 := He.glo_ok X G (d.fact 6 (f := .glo "need_marks") rfl)
  have m7 := He.glo_ok X G (d.fact 7 (f := .glo "is_row") rfl)
  have m8 := He.glo_ok X G (d.fact 8 (f := .glo "need_table") rfl)
  have m9 := He.glo_ok X G (d.fact 9 (f := .glo "need_house") rfl)
  have m10 := He.glo_ok X G (d.fact 10 (f := .glo "begins") rfl)
  have m11 := He.glo_ok X G (d.fact 11 (f := .glo "first_clash") rfl)
  have m12 := He.glo_ok X G (d.fact 12 (f := .glo "apart_at") rfl)
  have m13 := He.glo_ok X G (d.fact 13 (f := .glo "is_apart") rfl)
  have m14 := He.glo_ok X G (d.fact 14 (f := .glo "power") rfl)
  have m15 := He.glo_ok X G (d.fact 15 (f := .glo "longest_of") rfl)
  have m16 := He.glo_ok X G (d.fact 16 (f := .glo "row_number") rfl)
  have m17 := He.glo_ok X G (d.fact 17 (f := .glo "canonical") rfl)
  have m18 := He.glo_ok X G (d.fact 18 (f := .glo "least_longest") rfl)
  have m19 := He.glo_ok X G (d.fact 19 (f := .glo "rows_for") rfl)
  have m20 := He.glo_ok X G (d.fact 20 (f := .glo "loud_table") rfl)
  have m21 := He.glo_ok X G (d.fact 21 (f := .glo "_law_taken") rfl)
  have m22 := He.glo_ok X G (d.fact 22 (f := .glo "_law_pick") rfl)
  have m23 := He.glo_ok X G (d.fact 23 (f := .glo "_law_machine") rfl)
  have m24 := He.glo_ok X G (d.fact 24 (f := .glo "_law_every") rfl)
  have m25 := He.glo_ok X G (d.fact 25 (f := .glo "law") rfl)
  have GB : Gb mg := ⟨He.free_ok X G (d.fact 26 (f := .free "isinstance") rfl), He.free_ok X G (d.fact 27 (f := .free "int") rfl), He.free_ok X G (d.fact 28 (f := .free "bool") rfl), He.free_ok X G (d.fact 29 (f := .free "str") rfl), He.free_ok X G (d.fact 30 (f := .free "tuple") rfl), He.free_ok X G (d.fact 31 (f := .free "len") rfl), He.free_ok X G (d.fact 32 (f := .free "all") rfl), He.free_ok X G (d.fact 33 (f := .free "enumerate") rfl), He.free_ok X G (d.fact 34 (f := .free "range") rfl), He.free_ok X G (d.fact 35 (f := .free "sorted") rfl), He.free_ok X G (d.fact 36 (f := .free "zip") rfl), He.free_ok X G (d.fact 37 (f := .free "set") rfl), He.free_ok X G (d.fact 38 (f := .free "list") rfl),
    He.int_ok X G (d.fact 39 (f := .int "MOST_STATES" 40) rfl), He.int_ok X G (d.fact 40 (f := .int "MOST_OPTIONS" 6) rfl), He.int_ok X G (d.fact 41 (f := .int "MOST_LETTERS" 8) rfl), He.str_ok X G (d.fact 46 (f := .str "LETTERS" "abcdefghijklmnopqrstuvwxyz") rfl), He.int_ok X G (d.fact 42 (f := .int "MOST_MARKS" 4) rfl), He.int_ok X G (d.fact 43 (f := .int "MOST_ROW" 8) rfl), He.int_ok X G (d.fact 44 (f := .int "MOST_MANY" 40) rfl), He.int_ok X G (d.fact 45 (f := .int "MOST_LENGTH" 12) rfl)⟩
  have D0 : Df K mg "is_number" (topS 13) ["value", "low", "high"] [] fd0.code := df_of F0 m0 fun _ _ _ _ _ _ us hl => match us, hl with | [_, _, _], _ => rfl
  have D1 : Df K mg "need_number" (topS 14) ["value", "low", "high"] [] fd1.code := df_of F1 m1 fun _ _ _ _ _ _ us hl => match us, hl with | [_, _, _], _ => rfl
  have D2 : Df K mg "is_word" (topS 15) ["value"] [] fd2.code := df_of F2 m2 fun _ _ _ _ _ _ us hl => match us, hl with | [_], _ => rfl
  rw [code_ref (p := ("is_word", none)) F2] at D2
  have D3 : Df K mg "is_option" (topS 16) ["value", "many"] [] fd3.code := df_of F3 m3 fun _ _ _ _ _ _ us hl => match us, hl with | [_, _], _ => rfl
  have D4 : Df K mg "need_machine" (topS 17) ["value"] [] fd4.code := df_of F4 m4 fun _ _ _ _ _ _ us hl => match us, hl with | [_], _ => rfl
  rw [code_ref (p := ("need_machine", none)) F4] at D4
  have D5 : Df K mg "states_that_come" (topS 18) ["machine"] [] fd5.code := df_of F5 m5 fun _ _ _ _ _ _ us hl => match us, hl with | [_], _ => rfl
  have D6 : Df K mg "need_marks" (topS 22) ["value"] [] fd6.code := df_of F6 m6 fun _ _ _ _ _ _ us hl => match us, hl with | [_], _ => rfl
  obtain ⟨dsr, hdr, hbr⟩ := F7.binds1 (ps := ["value", "marks", "most"]) 2 0 (fun z => by cases z) rfl (fun T kV doc pm an cdv ct us its hu hi => match us, its, hu, hi with | [_, _], [_], _, _ => ⟨_, rfl, rfl⟩)
  have D7 : Df K mg "is_row" (topS 23) ["value", "marks", "most"] [.int 8] fd7.code := ⟨_, fd7, _, dsr, F7, m7, hbr, hdr, rfl⟩
  rw [code_ref (p := ("is_row", none)) F7] at D7
  have D8 : Df K mg "need_table" (topS 24) ["machine", "marks", "value"] [] fd8.code := df_of F8 m8 fun _ _ _ _ _ _ us hl => match us, hl with | [_, _, _], _ => rfl
  rw [code_ref (p := ("need_table", none)) F8] at D8
  have D9 : Df K mg "need_house" (topS 25) ["machine", "marks", "table"] [] fd9.code := df_of F9 m9 fun _ _ _ _ _ _ us hl => match us, hl with | [_, _, _], _ => rfl
  have D10 : Df K mg "begins" (topS 26) ["one", "other"] [] fd10.code := df_of F10 m10 fun _ _ _ _ _ _ us hl => match us, hl with | [_, _], _ => rfl
  have D11 : Df K mg "first_clash" (topS 27) ["rows"] [] fd11.code := df_of F11 m11 fun _ _ _ _ _ _ us hl => match us, hl with | [_], _ => rfl
  have D12 : Df K mg "apart_at" (topS 28) ["machine", "table"] [] fd12.code := df_of F12 m12 fun _ _ _ _ _ _ us hl => match us, hl with | [_, _], _ => rfl
  have D13 : Df K mg "is_apart" (topS 29) ["machine", "marks", "table"] [] fd13.code := df_of F13 m13 fun _ _ _ _ _ _ us hl => match us, hl with | [_, _, _], _ => rfl
  have D14 : Df K mg "power" (topS 30) ["number", "times"] [] fd14.code := df_of F14 m14 fun _ _ _ _ _ _ us hl => match us, hl with | [_, _], _ => rfl
  have D15 : Df K mg "longest_of" (topS 34) ["marks", "many"] [] fd15.code := df_of F15 m15 fun _ _ _ _ _ _ us hl => match us, hl with | [_, _], _ => rfl
  have D16 : Df K mg "row_number" (topS 35) ["marks", "number", "length"] [] fd16.code := df_of F16 m16 fun _ _ _ _ _ _ us hl => match us, hl with | [_, _, _], _ => rfl
  have D17 : Df K mg "canonical" (topS 36) ["marks", "lengths"] [] fd17.code := df_of F17 m17 fun _ _ _ _ _ _ us hl => match us, hl with | [_, _], _ => rfl
  rw [code_ref (p := ("canonical", none)) F17] at D17
  have D18 : Df K mg "least_longest" (topS 37) ["marks", "many"] [] fd18.code := df_of F18 m18 fun _ _ _ _ _ _ us hl => match us, hl with | [_, _], _ => rfl
  have D19 : Df K mg "rows_for" (topS 38) ["marks", "lengths"] [] fd19.code := df_of F19 m19 fun _ _ _ _ _ _ us hl => match us, hl with | [_, _], _ => rfl
  rw [code_ref (p := ("rows_for", none)) F19] at D19
  have D20 : Df K mg "loud_table" (topS 39) ["machine", "marks"] [] fd20.code := df_of F20 m20 fun _ _ _ _ _ _ us hl => match us, hl with | [_, _], _ => rfl
  have D21 : Df K mg "_law_taken" (topS 41) ["_law_row", "_law_many"] [] fd21.code := df_of F21 m21 fun _ _ _ _ _ _ us hl => match us, hl with | [_, _], _ => rfl
  have D22 : Df K mg "_law_pick" (topS 42) ["_law_row", "_law_things"] [] fd22.code := df_of F22 m22 fun _ _ _ _ _ _ us hl => match us, hl with | [_, _], _ => rfl
  have D23 : Df K mg "_law_machine" (topS 43) ["_law_row", "_law_most", "_law_options"] [] fd23.code := df_of F23 m23 fun _ _ _ _ _ _ us hl => match us, hl with | [_, _, _], _ => rfl
  have D24 : Df K mg "_law_every" (topS 44) ["_law_marks", "_law_length"] [] fd24.code := df_of F24 m24 fun _ _ _ _ _ _ us hl => match us, hl with | [_, _], _ => rfl
  have e := hfa.symm.trans m25
  cases e
  have hcd : ∀ p ∈ tfL, PySem.W.CodeHd h (He.cT K p).1 (He.cT K p).2 := fun p hp => PySem.W.codeHd_of_K X (c.hd p hp)
  have nin : (He.cT K ("canonical", none)).2 ∉ (tfL.take 5).map fun p => (He.cT K p).2 := fun z => by
    have q := c.more
    unfold exL at q
    rw [List.contains_iff_mem.mpr z] at q
    cases q
  refine ⟨fd25, tfL.map (He.cT K), spLaw K ⟨(tfL.take 5).map fun p => (He.cT K p).2, (He.cT K ("canonical", none)).2⟩, fun p hp => ?_, fun p hp => ?_, fun p hp => ?_, fun s u => ?_, fun H a ns hl hbits hT hS => ?_, fun base KB GB2 TBs => ?_⟩
  · obtain ⟨q, hq, rfl⟩ := List.mem_map.mp hp
    exact c.empty q hq
  · obtain ⟨q, hq, rfl⟩ := List.mem_map.mp hp
    exact c.out q hq
  · obtain ⟨q, hq, rfl⟩ := List.mem_map.mp hp
    exact hcd q hq
  · exact FunD.bindsA (ps := ["_law_script"]) F25 (fun _ _ _ _ _ _ us hl => match us, hl with | [_], _ => rfl) s [u] rfl
  · have hT' : ∀ p ∈ tfL, H (He.cT K p).2 = some (.tbl #[]) := fun p hp => hT _ (List.mem_map.mpr ⟨p, hp, rfl⟩)
    refine ⟨a, ns, rfl, hS, ⟨fun P hP => ?_, LamX.TabS.nil (hT' ("canonical", none) (by decide +kernel)), nin⟩, fun _ => rfl⟩
    obtain ⟨p, hp, rfl⟩ := List.mem_map.mp hP
    exact ⟨#[], hT' p (List.mem_of_mem_take hp), True.intro⟩
  · have tb : ∀ p ∈ tfL, LamX.TabB base mg (He.codeOf K p) (He.cT K p).2 := fun p hp => TBs _ (List.mem_map.mpr ⟨p, hp, rfl⟩)
    have tg : ∀ p ∈ tfL, GxR.TabB base mg (He.codeOf K p) (He.cT K p).2 := fun p hp => ⟨(tb p hp).code, (tb p hp).bm, (tb p hp).gP⟩
    have mem : ∀ p ∈ tfL.take 5, (He.cT K p).2 ∈ (tfL.take 5).map fun p => (He.cT K p).2 := fun p hp => List.mem_map.mpr ⟨p, hp, rfl⟩
    have ht : ∃ t : Tb, t = ⟨(tfL.take 5).map fun p => (He.cT K p).2, (He.cT K ("canonical", none)).2⟩ := ⟨_, rfl⟩
    obtain ⟨t, et⟩ := ht
    rw [← et]
    have et1 : t.gs = (tfL.take 5).map fun p => (He.cT K p).2 := by rw [et]
    have et2 : t.cn = (He.cT K ("canonical", none)).2 := by rw [et]
    have memt : ∀ p ∈ tfL.take 5, (He.cT K p).2 ∈ t.gs := fun p hp => by rw [et1]; exact mem p hp
    have cNum : C8.Cal PySem.Challenge.rw_onelife_k21_whole_loud_tables.prog w K mg base 1 "is_number" spNum [] := ok_isNumber GB D0
    have cNeed : C8.Cal PySem.Challenge.rw_onelife_k21_whole_loud_tables.prog w K mg base 2 "need_number" spNeed [] := ok_needNumber D1 cNum
    have cWord : C8.Cal PySem.Challenge.rw_onelife_k21_whole_loud_tables.prog w K mg base 2 "is_word" (spWord t) [] := ok_isWord GB D2 (tg ("is_word", none) (by decide +kernel)) (memt ("is_word", none) (by decide +kernel))
    have cOpt : C8.Cal PySem.Challenge.rw_onelife_k21_whole_loud_tables.prog w K mg base 3 "is_option" (spOption K t) [] := ok_isOption GB D3 cNum cWord
    have cNm : C8.Cal PySem.Challenge.rw_onelife_k21_whole_loud_tables.prog w K mg base 5 "need_machine" (spNeedMachine K t) [] := ok_needMachine GB D4 (tg ("need_machine", none) (by decide +kernel)) (memt ("need_machine", none) (by decide +kernel)) cOpt
    have cCome : C8.Cal PySem.Challenge.rw_onelife_k21_whole_loud_tables.prog w K mg base 1 "states_that_come" (spCome K t) [] := ok_come GB D5
    have cMk : C8.Cal PySem.Challenge.rw_onelife_k21_whole_loud_tables.prog w K mg base 2 "need_marks" spMarks [] := ok_needMarks GB D6 cNum
    have cRow : C8.Cal PySem.Challenge.rw_onelife_k21_whole_loud_tables.prog w K mg base 3 "is_row" (spRow K t) [.int 8] := ok_isRow GB D7 (tg ("is_row", none) (by decide +kernel)) (memt ("is_row", none) (by decide +kernel)) cNum
    have cNt : C8.Cal PySem.Challenge.rw_onelife_k21_whole_loud_tables.prog w K mg base 5 "need_table" (spNeedTable K t) [] := ok_needTable GB D8 (tg ("need_table", none) (by decide +kernel)) (memt ("need_table", none) (by decide +kernel)) cRow
    have cNh : C8.Cal PySem.Challenge.rw_onelife_k21_whole_loud_tables.prog w K mg base 6 "need_house" (spNeedHouse K t) [] := ok_needHouse D9 cNm cMk cNt
    have cBeg : C8.Cal PySem.Challenge.rw_onelife_k21_whole_loud_tables.prog w K mg base 1 "begins" (spBegins K) [] := ok_begins GB D10
    have cCl : C8.Cal PySem.Challenge.rw_onelife_k21_whole_loud_tables.prog w K mg base 2 "first_clash" (spClash K) [] := ok_clash GB D11 cBeg
    have cAp : C8.Cal PySem.Challenge.rw_onelife_k21_whole_loud_tables.prog w K mg base 3 "apart_at" (spApartAt K t) [] := ok_apartAt D12 cCome cCl
    have cIa : C8.Cal PySem.Challenge.rw_onelife_k21_whole_loud_tables.prog w K mg base 7 "is_apart" (spIsApart K t) [] := ok_isApart D13 cNh cAp
    have cPw : C8.Cal PySem.Challenge.rw_onelife_k21_whole_loud_tables.prog w K mg base 1 "power" spPower [] := ok_power GB D14
    have cLg : C8.Cal PySem.Challenge.rw_onelife_k21_whole_loud_tables.prog w K mg base 2 "longest_of" spLongest [] := ok_longest D15 cPw
    have cRn : C8.Cal PySem.Challenge.rw_onelife_k21_whole_loud_tables.prog w K mg base 1 "row_number" (spRowNum K t) [] := ok_rowNum GB D16
    have tcn : LamX.TabB base mg (He.codeOf K ("canonical", none)) t.cn := by rw [et2]; exact tb ("canonical", none) (by decide +kernel)
    have cCn : C8.Cal PySem.Challenge.rw_onelife_k21_whole_loud_tables.prog w K mg base 2 "canonical" (spCanon K t) [] := ok_canon GB D17 tcn cPw cRn
    have cLl : C8.Cal PySem.Challenge.rw_onelife_k21_whole_loud_tables.prog w K mg base 3 "least_longest" spLongest [] := ok_least GB D18 cMk cNeed cLg
    have cRf : C8.Cal PySem.Challenge.rw_onelife_k21_whole_loud_tables.prog w K mg base 3 "rows_for" (spRowsFor K t) [] := ok_rowsFor GB D19 (tg ("rows_for", none) (by decide +kernel)) (memt ("rows_for", none) (by decide +kernel)) cNum cMk cCn
    have cLd : C8.Cal PySem.Challenge.rw_onelife_k21_whole_loud_tables.prog w K mg base 6 "loud_table" (spLoud K t) [] := ok_loud GB D20 cNm cMk cLg cCn
    have cTk : C8.Cal PySem.Challenge.rw_onelife_k21_whole_loud_tables.prog w K mg base 1 "_law_taken" (spTaken K) [] := ok_taken GB D21
    have cPk : C8.Cal PySem.Challenge.rw_onelife_k21_whole_loud_tables.prog w K mg base 2 "_law_pick" (spPick K) [] := ok_pick GB D22 cTk
    have cMc : C8.Cal PySem.Challenge.rw_onelife_k21_whole_loud_tables.prog w K mg base 3 "_law_machine" (spMach K) [] := ok_mach GB D23 cTk cPk
    have cEv : C8.Cal PySem.Challenge.rw_onelife_k21_whole_loud_tables.prog w K mg base 1 "_law_every" (spEvery K t) [] := ok_every GB D24
    refine FunD.ok (k := 7) F25 scLaw (fun vs H Q E h => ?_) (fun cdv A outer s H vs Q E hr h => ?_)
    · obtain ⟨s, ns, rfl, _⟩ := h
      rfl
    · obtain ⟨TT, h1, h2⟩ := law_walk (P := PySem.Challenge.rw_onelife_k21_whole_loud_tables.prog) (w := w) (base := base) GB cTk cMc cLd cLl cEv cRf cIa _ cdv A outer s H vs Q E hr h
      exact ⟨TT, h1.nox, h2⟩
end LT
open PySem PySem.W PySem.Calls PyProof.Rows
theorem PySem.Challenge.cw_onelife_k21_whole_loud_tables_holds : PySem.Challenge.rw_onelife_k21_whole_loud_tables.Holds := by
  w_on; o_law
  refine HandSHeadRun.head_any (r := OpenLaw.row PySem.Challenge.rw_onelife_k21_whole_loud_tables) (q := view (OpenLaw.row PySem.Challenge.rw_onelife_k21_whole_loud_tables).prog [45]) (H := LT.hkL) (ob := LT.obL) (M := 4000) (loose := LT.looseL) (d := HandSHeadRun.topDef (OpenLaw.row PySem.Challenge.rw_onelife_k21_whole_loud_tables).prog 45) (kwd := []) LT.obL_eq
    (by kernel_rfl) (fun s => by kernel_rfl) LT.run_top (by kernel_rfl) (by kernel_rfl) (by kernel_rfl) (by rfl) (by first | assumption | decide +kernel) (by decide +kernel) ⟨rfl, rfl, rfl, rfl, rfl, by decide +kernel⟩ ?hw ?hc
  case hw => w_witness2
  case hc =>
    refine LamX.walk_ofTsE (l := PySem.Challenge.rw_onelife_k21_whole_loud_tables) (n := 63) (k := 8) (x := "_law_script") (CX := fun _ => L2.CX0) rfl (by decide) (by kernel_rfl) ⟨rfl, by decide, by decide⟩ ?F (fun _ _ _ _ _ z => z)
    intro w mg fa h Y G hmg0
    obtain ⟨K, KX, c⟩ := Y
    have hmg : mg ("law" : PySem.Str) = some (.ref fa) := by
      have e : (HandSHeadRun.topDef (OpenLaw.row PySem.Challenge.rw_onelife_k21_whole_loud_tables).prog 45).name = ("law" : PySem.Str) := by kernel_rfl
      rw [← e]
      exact hmg0
    exact ⟨K, KX, LT.facts_law KX G hmg c⟩
