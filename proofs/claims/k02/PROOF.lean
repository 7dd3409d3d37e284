import PyProof.Rows.All
import Wide.All
import OpenK.AllK
import Wide.FinOn
import PyProof.EqAt
import PyProof.EqKinds
import PyProof.TupleCall
import HandS.ForMost
import HandS.Exc
import HandS.AnyAll
import HandS.GenList
import HandS.Deep
import HandS.Lambda
import HandS.TupAny
import HandS.Zip
import HandS.Conv
import HandS.Style
import HandS.IsInst
import KE.KExcSuper
import KE.KSuper
import HandS.ExcInit
import HandS.WordsExc
import HandS.ExcField
import HandS.TupMul
import HandS.SortRule
import HandS.SortInts
import HandS.EndTab
import HandS.EndOwn
import HandS.SetFor
import HandS.TupSets
import KE.GoesZip
import KE.GoesMore
import KE.DataMinMax
import KE.SortData
import PyProof.Claim2Refuses
import KE.KDictCopyH
import PySem.Challenge.RW_benchclocks_k02_whole_bent
set_option Elab.async false
set_option linter.all false
set_option maxRecDepth 100000
set_option maxHeartbeats 2000000
/-! all(elt for target in iter), the element anything that PE serves (calls of defs too) -/
namespace GX
open PySem PySem.Spec PyProof.Rows L2 GenW GxR

/-- the slots that a generator expression begins with: the captured ones, then its own, empty -/
def capt (σ : L2.St) (cap : List Nat) (n : Nat) : L2.St := cap.map (fun j => (σ[j]?).join) ++ List.replicate (n - cap.length) none

/-- the names of a generator expression: the captured ones first (cap: their places in the def's names) -/
structure GxOk (N N' : List Str) (sc scope : Scope) (cap : List Nat) : Prop where
  kind : scope.kind = .function
  co : scope.isCoroutine = false
  nocell : ∀ y ∈ scope.names, y.2 ≠ .cell
  dot : scope.names.lookup (".0" : Str) = some NameKind.local
  free : ∀ y ∈ scope.names, y.2 = .free → sc.names.lookup y.1 = some .cell ∨ sc.names.lookup y.1 = some .free
  cp : ∀ (i j : Nat) x, cap[i]? = some j → N'[i]? = some x → N[j]? = some x ∧ scope.names.lookup x = some .free
  len : cap.length ≤ N'.length
  nd : N'.Nodup
def gxB (N N' : List Str) (sc scope : Scope) (cap : List Nat) : Bool :=
  decide (scope.kind = .function) && !scope.isCoroutine && (scope.names.all fun y => !decide (y.2 = .cell)) && decide (scope.names.lookup (".0" : Str) = some NameKind.local) &&
    (scope.names.all fun y => !decide (y.2 = .free) || decide (sc.names.lookup y.1 = some .cell) || decide (sc.names.lookup y.1 = some .free)) &&
    ((List.range cap.length).all fun i => match cap[i]?, N'[i]? with
      | some j, some x => decide (N[j]? = some x) && decide (scope.names.lookup x = some .free)
      | _, _ => true) && decide (cap.length ≤ N'.length) && decide N'.Nodup
theorem gx_by {N N' : List Str} {sc scope : Scope} {cap : List Nat} (h : gxB N N' sc scope cap = true) : GxOk N N' sc scope cap := by
  unfold gxB at h
  simp only [Bool.and_eq_true, Bool.or_eq_true, Bool.not_eq_true', decide_eq_true_eq, decide_eq_false_iff_not, List.all_eq_true] at h
  obtain ⟨⟨⟨⟨⟨⟨⟨h1, h2⟩, h3⟩, h4⟩, h5⟩, h6⟩, h7⟩, h8⟩ := h
  refine ⟨h1, h2, h3, h4, fun y hy e => ?_, fun i j x hi hx => ?_, h7, h8⟩
  · rcases h5 y hy with (z | z) | z
    · exact absurd e z
    · exact .inl z
    · exact .inr z
  · have hl : i < cap.length := (List.getElem?_eq_some_iff.mp hi).1
    have q := h6 i (List.mem_range.mpr hl)
    rw [hi, hx] at q
    simpa using q

/-- the context of the generator expression's frame -/
def gxCx (X : Cx) (A : Around) (s : Shared) (H : Hp) (N' : List Str) (cenv : Env) (fp : List Addr) (pn : List (Addr × Obj)) : Cx where
  prog := X.prog
  w := X.w
  K := X.K
  mg := X.mg
  base := X.base
  A := A
  N := N'
  s_0 := s
  H_0 := H
  env := cenv
  outer := X.stack
  stack := cenv :: X.stack
  ex := fp
  fn := fun _ => false
  calm := true
  pn := pn
  xe := fun _ _ => False

section
variable {X : Cx} {pins : List (Addr × Obj)} {σ : L2.St} {H : Hp} {s : Shared}

/-- the frame is made, the generator's object stands -/
theorem gx_start {A : Around} {scope : Scope} {N' : List Str} {cap : List Nat} {cl : List (Str × Addr)} {code : Value} {it : Value} {fp : List Addr} {h' : Heap} {go : Obj} {tk : Nat} {gs : GenState}
    (I : Inv X pins σ H s) (ok : GxOk X.N N' X.env.scope scope cap) (hcl : cl = cloFrom X.env.cells scope.names []) (hA : A.frames = some (genEnv scope cl s.heap.objs.size code builtinsNs X.env :: X.stack)) (hd : A.handled = none)
    (hfp : ∀ b ∈ fp, FpOk X pins H b ∧ b < s.heap.objs.size) (hgs : gs.bare = true) (hgo : ∀ v, go.data ≠ .cell v) (hgf : (h'.push go).get? h'.objs.size = some go)
    (hn : h'.Ns s.heap.objs.size (fun y => if y = ".0" then some it else none)) (hs : Heap.SameBut s.heap.objs.size (s.heap.push { cls := .type "frame", data := .dict #[] }) h') :
    Inv (gxCx X A s H N' (genEnv scope cl s.heap.objs.size code builtinsNs X.env) fp [(h'.objs.size, go)]) [] (capt σ cap N'.length) H { s with gens := s.gens.push gs, toks := tk, heap := h'.push go } := by
  have hfree : ∀ y ∈ scope.names, y.2 = .free → ∃ c, X.env.cells.lookup y.1 = some c := fun y hy e => by
    rcases ok.free y hy e with k | k
    · exact I.ok.has _ (.inl k)
    · exact I.ok.has _ (.inr k)
  have cm : ∀ {y c}, cl.lookup y = some c → X.env.cells.lookup y = some c := fun {y c} e => by
    rw [hcl] at e
    rcases cloFrom_mem (PySem.mem_of_lookup e) with hm | ⟨h1, h2⟩
    · cases hm
    · obtain ⟨c1, hc⟩ := hfree _ h1 rfl
      have hc : X.env.cells.lookup y = some c1 := hc
      have e2 : c = c1 := by
        rw [h2, hc] <;> rfl
      rw [e2]
      exact hc
  have look : ∀ {y}, scope.names.lookup y = some .free → ∃ c, cl.lookup y = some c := fun {y} hl => by
    have hy : (y, NameKind.free) ∈ scope.names := PySem.mem_of_lookup hl
    rw [hcl]
    exact mem_lookup (cloFrom_has (cells := X.env.cells) (acc := []) hy)
  have kp0 : ∀ b o, s.heap.get? b = some o → h'.get? b = some o := fun b o e => hs.extBut b o (Nat.ne_of_lt (Heap.lt_size e)) (Heap.get?_push_of_some _ e)
  have kp : ∀ b o, s.heap.get? b = some o → (h'.push go).get? b = some o := fun b o e => Heap.get?_push_of_some _ (kp0 b o e)
  have sz1 : h'.objs.size = s.heap.objs.size + 1 := by rw [hs.1, Heap.size_push]
  have e0 := I.env0
  have nfr : ∀ {b : Addr}, s.heap.objs.size ≤ b → b ∉ frs X.stack := fun {b} hb hm => by
    obtain ⟨_, o, ho, _⟩ := e0.funs.mem hm
    exact absurd (Nat.lt_of_lt_of_le (Heap.lt_size ho) hb) (Nat.lt_irrefl _)
  have noex : ∀ b o, X.base.get? b = some o → b ∉ fp := fun b o e hb => by
    rcases (hfp b hb).1.2.2.2.1 with z | z
    · exact I.ok.noex b o e z
    · exact absurd (Nat.lt_of_lt_of_le (Heap.lt_size (I.ok.bs b o e).1) z) (Nat.lt_irrefl _)
  refine ⟨⟨e0.mod, ok.kind, I.ok.glob, rfl, Nat.le_refl _, fun y z c e1 e2 => I.ok.inj y z c (cm e1) (cm e2), fun y hy => ?_, fun y c z _ => Bool.noConfusion (show false = true from z), fun _ => hd, hA, .inr ⟨rfl, rfl⟩, fun b hb => ?_, e0.bs, e0.bsz, noex, fun b hb => ?_, e0.funs, e0.frf⟩,
    rfl, I.bare.push hgs, Un.kept kp, ⟨_, hn.push go, fun i y v e1 e2 e3 => ?_⟩, fun y c e => ?_, e0.hok.fresh (Nat.le_refl _), fun y c e => ?_, fun q hq => ?_, e0.hok.kept kp, ?_⟩
  · have hy : scope.names.lookup y = some .cell ∨ scope.names.lookup y = some .free := hy
    rcases hy with hy | hy
    · exact absurd rfl (ok.nocell _ (PySem.mem_of_lookup hy))
    · exact look hy
  · exact ⟨Nat.ne_of_lt (hfp b hb).2, fun x c e => (hfp b hb).1.2.2.2.2.1 x c (cm e)⟩
  · intro hm
    rcases List.mem_cons.mp (I.stkSub b hm) with z | z
    · exact (hfp b hb).1.2.1 z
    · exact (hfp b hb).1.2.2.1 z
  · -- the captured names
    have e1 : N'[i]? = some y := e1
    by_cases hi : i < cap.length
    · obtain ⟨j, hj⟩ : ∃ j, cap[i]? = some j := ⟨_, List.getElem?_eq_getElem hi⟩
      obtain ⟨c1, c2⟩ := ok.cp i j y hj e1
      have e4 : σ[j]? = some (some v) := by
        unfold capt at e2
        rw [List.getElem?_append_left (by simpa using hi), List.getElem?_map, hj] at e2
        have e2 : (σ[j]?).join = some v := Option.some.inj e2
        cases q : σ[j]? with
        | none => rw [q] at e2; cases e2
        | some z =>
          rw [q] at e2
          rw [show z = some v from e2]
      have hvis : Vis X.env.scope y := (ok.free _ (PySem.mem_of_lookup c2) rfl).elim (fun k => .inr (.inl k)) (fun k => .inr (.inr k))
      obtain ⟨m, hm, hl⟩ := I.loc
      obtain ⟨w', r, q⟩ := hl j y v c1 e4 hvis
      obtain ⟨c3, h3⟩ := look c2
      refine ⟨w', r, .inr ⟨.inr c2, c3, h3, ?_⟩⟩
      have c4 := cm h3
      rcases q with ⟨k', _⟩ | ⟨_, c5, e', o, z1, z2⟩
      · have k' : X.env.scope.names.lookup y = some .local := k'
        rcases ok.free _ (PySem.mem_of_lookup c2) rfl with k2 | k2 <;> rw [show X.env.scope.names.lookup y = _ from k2] at k' <;> cases k'
      · rw [c4] at e'
        cases e'
        exact ⟨o, kp _ _ z1, z2⟩
    · unfold capt at e2
      rw [List.getElem?_append_right (by simpa using hi), List.getElem?_replicate] at e2
      split at e2 <;> cases e2
  · obtain ⟨v, o, z1, z2⟩ := I.cell y c (cm e)
    exact ⟨v, o, kp _ _ z1, z2⟩
  · exact I.freeC y c (cm e)
  · have hq : q = (h'.objs.size, go) := by
      have hq' : q ∈ [(h'.objs.size, go)] ++ ([] : List (Addr × Obj)) := hq
      simpa using hq'
    subst hq
    have hle : s.heap.objs.size ≤ h'.objs.size := by rw [sz1]; exact Nat.le_succ _
    exact ⟨hgf, e0.hok.fresh hle, by show h'.objs.size ≠ s.heap.objs.size; rw [sz1]; exact Nat.succ_ne_self _, nfr hle, hgo⟩
  · unfold capt
    show _ = N'.length
    have := ok.len
    rw [List.length_append, List.length_map, List.length_replicate]
    omega
end

/-! ### the consumer -/
def GxY (a : Addr) (g : Nat) (EndF : Shared → Prop) : Protocol := fun _ _ v s kap =>
  ∃ b, v = .bool b ∧ AllBare s.gens ∧ s.heap.NoLimit ∧ s.heap.IsGen a g ∧ (b = true → ∀ G, AllBare G → kap (.send .none) { s with gens := G }) ∧ (b = false → EndF s)
theorem all_drain {P : Program} {w : World} {A : Around} {Rr : Result → Shared → Prop} {a : Addr} {g : Nat} {EndT EndF : Shared → Prop} (hh : A.handled = none) (hd : A.depth < recursionLimit)
    (hB : ∀ s₁, EndT s₁ → AllBare s₁.gens)
    (hT : ∀ s₁ G h', EndT s₁ → AllBare G → (∀ b o, s₁.heap.get? b = some o → h'.get? b = some o) → Rr (.ok (.ret (.bool true))) { s₁ with gens := G, heap := h' })
    (hF : ∀ s₁ G, EndF s₁ → AllBare G → Rr (.ok (.ret (.bool false))) { s₁ with gens := G }) :
    ∀ (n : Nat) (s : Shared), s.heap.IsGen a g → s.heap.NoLimit →
      (∃ gs, s.gens[g]? = some gs ∧ gs.Goes (model P w) A.in1.in1 (fun n s₀ r s₁ => r = .ok .next ∧ EndT s₁) (GxY a g EndF) n (.send .none) (s.setGen g .running)) →
      codeAny (model P w) A (.builtin "all.loop" ⟨[.ref a], []⟩) Rr s := by
  intro n
  induction n with
  | zero =>
    intro s hg hl ⟨gs, hgs, hgo⟩
    refine codeAny_builtin F.entry_all_loop ?_
    rw [Around.under_plainId F.plain_all_loop _]
    show wpAny _ A.in1 (pyNext (.ref a) >>= _) _ _ s
    refine wpAny_bind (wpAny_pyNext_genexpQ (A := A.in1) (P := fun _ _ s₁ => EndT s₁) hh hl hd hg hgs hgo (fun v s₁ gs' hbare hv => ?_) (fun s₁ hp h' hk => ?_))
    · obtain ⟨b, rfl, hb, hl1, hg1, ht, hf⟩ := hv
      cases b with
      | true => exact (ht rfl s₁.gens hb).elim
      | false =>
        refine wpAny_bind (wpAny_holding (wpAny_truthy_bool ?_))
        refine wpAny_bind (wpAny_letGo ?_)
        simp only [Bool.false_eq_true, if_false]
        refine wpAny_bind (wpAny_rule (wpAny_pure ?_))
        exact hF s₁ _ (hf rfl) (allBare_setGen hb hbare)
    · refine wpAny_bind (wpAny_rule (wpAny_pure ?_))
      exact hT s₁ _ h' hp (allBare_setGen (hB s₁ hp) rfl) hk
  | succ n ih =>
    intro s hg hl ⟨gs, hgs, hgo⟩
    have hgl : g < s.gens.size := (Array.getElem?_eq_some_iff.mp hgs).1
    refine codeAny_builtin F.entry_all_loop ?_
    rw [Around.under_plainId F.plain_all_loop _]
    show wpAny _ A.in1 (pyNext (.ref a) >>= _) _ _ s
    refine wpAny_bind (wpAny_gsz (n := g + 1) hgl (wpAny_pyNext_genexpQ (A := A.in1) (P := fun _ _ s₁ => EndT s₁) hh hl hd hg hgs hgo (fun v s₁ gs' hbare hv => ?_) (fun s₁ hp h' hk => ?_)))
    · intro hsz
      obtain ⟨b, rfl, hb, hl1, hg1, ht, hf⟩ := hv
      have hsz1 : g < s₁.gens.size := by
        have q : (s₁.setGen g gs').gens.size = s₁.gens.size := setGen_size _ _ _
        have hsz' : g + 1 ≤ (s₁.setGen g gs').gens.size := hsz
        omega
      refine wpAny_bind (wpAny_holding (wpAny_truthy_bool ?_))
      refine wpAny_bind (wpAny_letGo ?_)
      cases b with
      | true =>
        simp only [if_true]
        refine wpAny_pure ⟨plainId_quiet F.plain_all_loop _, ih (s₁.setGen g gs') hg1 hl1 ⟨gs', setGen_at hsz1, ?_⟩⟩
        exact ht rfl _ (allBare_setGen (s := s₁.setGen g gs') (allBare_setGen hb hbare) rfl)
      | false =>
        simp only [Bool.false_eq_true, if_false]
        refine wpAny_bind (wpAny_rule (wpAny_pure ?_))
        exact hF s₁ _ (hf rfl) (allBare_setGen hb hbare)
    · intro hsz
      refine wpAny_bind (wpAny_rule (wpAny_pure ?_))
      exact hT s₁ _ h' hp (allBare_setGen (hB s₁ hp) rfl) hk

/-- all(..) of a generator that has not begun -/
theorem call_all_gx {P : Program} {w : World} {A : Around} {a : Addr} {g : Nat} {EndT EndF : Shared → Prop} {Q : Value → Shared → Prop} {E : Value → Shared → Prop} {s : Shared} {n : Nat} {c : Code} (hh : A.handled = none) (hd : A.depth < recursionLimit)
    (hg : s.heap.IsGen a g) (hl : s.heap.NoLimit) (hgs : s.gens[g]? = some (.fresh c))
    (hgo : Seg (model P w) A.in1.in1 (fun n s₀ r s₁ => r = .ok .next ∧ EndT s₁) (GxY a g EndF) n (s.setGen g .running) c ((model P w).den c) [] (s.setGen g .running))
    (hB : ∀ s₁, EndT s₁ → AllBare s₁.gens)
    (hT : ∀ s₁ G h', EndT s₁ → AllBare G → (∀ b o, s₁.heap.get? b = some o → h'.get? b = some o) → Q (.bool true) { s₁ with gens := G, heap := h' })
    (hF : ∀ s₁ G, EndF s₁ → AllBare G → Q (.bool false) { s₁ with gens := G }) :
    wpAny (model P w) A (call (.builtin "all") [.ref a]) Q E s := by
  refine call_function_tree F.kind_all F.plain_all F.entry_all (F.args_all1 _) ?_
  unfold Builtin.«all»
  refine wpAny_bind (m := oneArg "all" _) (wpAny_pure ?_)
  refine wpAny_bind (wpAny_pyIter_gen hg ?_)
  exact wpAny_pure ⟨plainId_quiet F.plain_all_loop _, all_drain hh hd hB hT hF n s hg hl ⟨_, hgs, rfl, hgo⟩⟩

/-! ### the generator's run -/
/-- all that is known at σ is so at σ2 -/
def SubS (σ σ2 : L2.St) : Prop := ∀ (j : Nat) (v : V), σ[j]? = some (some v) → σ2[j]? = some (some v)
section
theorem inv_gens {X : Cx} {pins : List (Addr × Obj)} {σ : L2.St} {H : Hp} {s : Shared} {G : Array GenState} (I : Inv X pins σ H s) (hG : AllBare G) : Inv X pins σ H { s with gens := G } :=
  I.call (g' := G) (t' := s.toks) (d' := s.drawn) (ch := []) (Un.kept fun _ _ e => e) I.hok hG fun b z => absurd z (by simp)
theorem seg_gxLoop {X' : Cx} {A : Around} {elt tg iter : Expr} {scope : Scope} {pos : Pos} {it : Addr} {fp : List Addr} {tn : Nat → Heap → Prop} {J : It} {g : TG} {te : TE} {W : Nat → Nat → Hp → Prop} {σ0 : L2.St} {a : Addr} {gi : Nat} {QT QF : Hp → Prop}
    (hX : A.over (.compLoop (.GeneratorExp elt [⟨tg, iter, [], 0⟩] scope pos) 0 (.ref it) .none X'.env) [] = X'.A) (hxe : X'.xe = fun _ _ => False) (hc : X'.calm = true) (hex : X'.ex = fp) (hco : X'.env.scope.isCoroutine = false)
    (T : Turn X'.prog X'.w X'.K tg J fp it tn) (pg : PG X' tg g) (pe : PE X' elt te) (hgen : ∀ {pins σ H s}, Inv X' pins σ H s → s.heap.IsGen a gi) (hpn : ∀ p ∈ X'.pn, ∀ b ∈ fp, p.1 ≠ b)
    (turn : ∀ i m H, W i m H → (J.stop i H ∧ QT H) ∨ (J.go i H ∧ ∃ Nx : Hp → Prop, (∀ H', Nx H' → ∃ m', m' < m ∧ W (i + 1) m' H') ∧ ∀ x H', J.yld i H x H' → g x σ0 H' fun σ2 H2 => SubS σ0 σ2 ∧ te σ2 H2 fun y H3 => ∃ b, y = .bl b ∧ if b = true then Nx H3 else QF H3)) :
    ∀ (m n i : Nat) (s₀ s : Shared) (H : Hp), m < n → W i m H → Inv X' [] σ0 H s → (∀ b ∈ fp, H b = none) → tn i s.heap →
      Seg (model X'.prog X'.w) A (fun n s₀ r s₁ => r = .ok .next ∧ ∃ H', Inv X' [] σ0 H' s₁ ∧ QT H') (GxY a gi (fun s₁ => ∃ σ' H' pl, Inv X' pl σ' H' s₁ ∧ QF H')) n s₀
        (.compLoop (.GeneratorExp elt [⟨tg, iter, [], 0⟩] scope pos) 0 (.ref it) .none X'.env)
        ((model X'.prog X'.w).den (.compLoop (.GeneratorExp elt [⟨tg, iter, [], 0⟩] scope pos) 0 (.ref it) .none X'.env)) [] s := by
  intro m
  induction m using Nat.strongRecOn with
  | ind m ih =>
    intro n i s₀ s H hmn w I nf st
    have stat : ∀ {σ' : L2.St} {H' : Hp} {s' : Shared}, Inv X' [] σ' H' s' → (∀ b ∈ fp, H' b = none) → ∀ b ∈ fp, FpOk X' [] H' b := fun {σ' H' s'} I' hn b hb =>
      ⟨hn b hb, (I'.ok.exf b (by rw [hex]; exact hb)).1, I'.ok.exfs b (by rw [hex]; exact hb), .inl (by rw [hex]; exact hb), fun x c e => (I'.ok.exf b (by rw [hex]; exact hb)).2 x c e, fun p hp => hpn p (by simpa using hp) b hb⟩
    show Seg _ A _ _ _ s₀ _ ((compTurn (.GeneratorExp elt [⟨tg, iter, [], 0⟩] scope pos) 0 (.ref it) .none X'.env).onRaise (leaving X'.env)) [] s
    rw [compTurn_gen, Sem.onRaise_eq_wrap]
    refine seg_bind_wrap (wpAny_standAt ?_)
    rcases turn i m H w with ⟨stop, qq⟩ | ⟨go, Nx, hNx, step⟩
    · have td := T.done X' rfl rfl rfl hc i [] s _ H (fun _ _ => False) I (stat I nf) st stop
      refine seg_bind_wrap ?_
      rw [hX]
      refine thnF td fun r s6 ⟨hr, I6⟩ => ?_
      subst hr
      exact seg_end (.ok .next) ⟨rfl, H, I6, qq⟩
    · have ti := T.item X' rfl rfl rfl hc i [] s _ H (fun _ _ => False) I (stat I nf) st go
      refine seg_bind_wrap ?_
      rw [hX]
      refine thnF ti fun r s6 ⟨u, hr, h6⟩ => ?_
      subst hr
      refine seg_bind_wrap ?_
      rw [hX]
      refine thnF h6 fun _ s7 ⟨x, H7, I7, r7, y7, st7, n7⟩ => ?_
      have I7' := I7.pinned (stat I7 n7) (T.obj _ _ st7)
      refine seg_bind_wrap ?_
      rw [hX]
      have pg' := pg.run _ s7 _ H7 x u _ I7' r7 (step x H7 y7)
      rw [hxe] at pg'
      refine thnF pg' fun _ s8 ⟨σ8, H8, I8, hw8, q8⟩ => ?_
      refine seg_bind_wrap ?_
      rw [hX]
      refine wpAny_tests_nil ?_
      simp only [if_true]
      have hy : ∀ v, yieldOut X'.env v = yieldValue v := fun v => by simp only [yieldOut, hco, Bool.false_eq_true, if_false]
      simp only [hy]
      rw [Sem.bind_eq_wrap', Sem.bind_eq_wrap', Sem.wrap_wrap, Sem.wrap_wrap]
      refine seg_wrap ?_
      rw [hX]
      have pe' := pe.run _ s8 σ8 H8 _ I8 q8
      rw [hxe] at pe'
      refine thnF pe' fun z s10 ⟨yv, H10, I10, r10, b, eb, nx⟩ => ?_
      subst eb
      obtain rfl : z = Value.bool b := r10
      obtain ⟨n, rfl⟩ : ∃ k, n = k + 1 := ⟨n - 1, by omega⟩
      refine seg_at (seg_yield rfl rfl rfl ⟨b, rfl, I10.bare, I10.nolimit, hgen I10, fun hb G hG => ?_, fun hb => ⟨σ8, H10, _, I10, by subst hb; simpa using nx⟩⟩)
      subst hb
      obtain ⟨m', hm, w'⟩ := hNx H10 (by simpa using nx)
      have pin' : ∀ b ∈ fp, ∀ o, s7.heap.get? b = some o → s10.heap.get? b = some o ∧ H10 b = none := fun b hb o e =>
        let z := I10.pin (b, o) (List.mem_append_right _ (List.mem_append_right _ (mem_pinsAt hb e)))
        ⟨z.1, z.2.1⟩
      have hl : σ0.length = σ8.length := I.len.trans I8.len.symm
      refine seg_again rfl (ih m' hm n (i + 1) _ _ H10 (by omega) w' (inv_gens ((I10.unpinned (pins := [])).weak hl hw8) hG) (fun b hb => ?_) (T.keep _ _ _ st7 fun b hb o e => (pin' b hb o e).1))
      obtain ⟨o, e, _⟩ := T.obj _ _ st7 b hb
      exact (pin' b hb o e).2
end

theorem seg_gxStart {M : Model} {X' : Cx} {A : Around} {elt tg iter : Expr} {scope : Scope} {pos : Pos} {it : Addr} {fp : List Addr} {tn : Nat → Heap → Prop} {J : It} {R : GenEnd} {Y : Protocol} {n : Nat} {s₀ s : Shared} (T : Turn X'.prog X'.w X'.K tg J fp it tn) (st : tn 0 s.heap)
    (loop : Seg (model X'.prog X'.w) A R Y n s₀ (.compLoop (.GeneratorExp elt [⟨tg, iter, [], 0⟩] scope pos) 0 (.ref it) .none X'.env) ((model X'.prog X'.w).den (.compLoop (.GeneratorExp elt [⟨tg, iter, [], 0⟩] scope pos) 0 (.ref it) .none X'.env)) [] s) :
    Seg (model X'.prog X'.w) A R Y n s₀ (.compStart (.GeneratorExp elt [⟨tg, iter, [], 0⟩] scope pos) 0 (.ref it) .none X'.env) ((model X'.prog X'.w).den (.compStart (.GeneratorExp elt [⟨tg, iter, [], 0⟩] scope pos) 0 (.ref it) .none X'.env)) [] s := by
  show Seg _ A _ _ _ s₀ _ ((compStart (.GeneratorExp elt [⟨tg, iter, [], 0⟩] scope pos) 0 (.ref it) .none X'.env).onRaise (leaving X'.env)) [] s
  unfold compStart
  rw [Sem.onRaise_eq_wrap]
  show Seg _ A _ _ _ s₀ _ ((ask >>= _).wrap _ _ _ _) [] s
  refine seg_bind_wrap (wpAny_askSetting ?_)
  split
  · exact seg_again rfl loop
  · first
      | exact seg_bind_wrap (wpAny_rule (seg_bind_wrap (wpAny_standAt (seg_bind_wrap (T.self _ 0 s _ _ st (seg_again rfl loop))))))
      | (refine seg_bind_wrap (wpAny_rule ?_); show Seg _ A _ _ _ s₀ _ ((standAt iter.pos >>= _).wrap _ _ _ _) [] s; exact seg_bind_wrap (wpAny_standAt (seg_bind_wrap (T.self _ 0 s _ _ st (seg_again rfl loop)))))

/-- all(elt for target in iter): behind it the def's table at P may have grown -/
def tAllG (P : Addr) (wi : TI) (g : TG) (te : TE) (cap : List Nat) (n : Nat) : TE := fun σ H Q => wi σ H fun J H1 => ∃ ps, H1 P = some (.tbl ps) ∧ TriplesOk ps.toList ∧ ∀ ps' : Array Value, TriplesOk ps'.toList →
  ∃ W : Nat → Nat → Hp → Prop, (∃ m, W 0 m (upd H1 P (.tbl ps'))) ∧ ∀ i m H, W i m H → (J.stop i H ∧ Q (.bl true) H) ∨ (J.go i H ∧ ∃ Nx : Hp → Prop, (∀ H', Nx H' → ∃ m', m' < m ∧ W (i + 1) m' H') ∧
    ∀ x H', J.yld i H x H' → g x (capt σ cap n) H' fun σ2 H2 => SubS (capt σ cap n) σ2 ∧ te σ2 H2 fun y H3 => ∃ b, y = .bl b ∧ if b = true then Nx H3 else Q (.bl false) H3)
/-- the around of the frame's code, all called from A -/
theorem gx_over {A : Around} {elt tg iter : Expr} {scope : Scope} {pos : Pos} {it : Value} {cenv : Env} :
    (A.over (.compLoop (.GeneratorExp elt [⟨tg, iter, [], 0⟩] scope pos) 0 it .none cenv) []) = A.deeper cenv := by
  first
    | rfl
    | (obtain ⟨hd, d, fr, gs, u⟩ := A; simp [Around.over, Around.deeper, marksOver, frameCount, unitsOf, envsOf, guardsOf, pushEnvs, pushGuards, Code.envs, Code.env?, Code.isFrame, Code.guards, Code.isGuard, Code.weight, Code.frames, Code.isCreation, Code.isCaller, Code.cUnits])
section
variable {X : Cx}
theorem upd_self' {H : Hp} {a : Addr} {o : HO} (h : H a = some o) : upd H a o = H := by
  funext b
  unfold upd
  split
  · rename_i e; rw [e, h]
  · rfl
theorem pe_allG {c P : Addr} {elt tg iter : Expr} {p pos gpos : Pos} {scope : Scope} {N' : List Str} {cap : List Nat} {wi : TI} {g : TG} {te : TE} {k : Nat}
    (hc : X.calm = true) (hr : Room (k + 2) X.A) (hga : Gl X "all") (hm : X.mg "all" = none) (TB : TabB X.base X.mg c P) (hcode : X.env.code = .ref c) (ok : GxOk X.N N' X.env.scope scope cap) (hi : PI X tg iter wi)
    (hg : ∀ (A : Around) (s : Shared) (H : Hp) (cl : List (Str × Addr)) (C : Addr) (cv : Value) (fp : List Addr) (pn : List (Addr × Obj)), Room k A → PG (gxCx X A s H N' (genEnv scope cl C cv builtinsNs X.env) fp pn) tg g)
    (he : ∀ (A : Around) (s : Shared) (H : Hp) (cl : List (Str × Addr)) (C : Addr) (cv : Value) (fp : List Addr) (pn : List (Addr × Obj)), Room k A → PE (gxCx X A s H N' (genEnv scope cl C cv builtinsNs X.env) fp pn) elt te)
    (hs : ∀ v, genFold iter X.env v = pure v := by intro _; rfl)
    (hse : starEach [.GeneratorExp elt [⟨tg, iter, [], 0⟩] scope gpos] X.env = (false, eval (.GeneratorExp elt [⟨tg, iter, [], 0⟩] scope gpos) X.env) :: starEach [] X.env := by rfl) :
    PE X (.Call (.Name "all" p) [.GeneratorExp elt [⟨tg, iter, [], 0⟩] scope gpos] [] pos) (tAllG P wi g te cap N'.length) := by
  refine ⟨fun pins s σ H Q I h => ?_⟩
  have hb : bootBuiltins "all" = some (.builtin "all") := by decide +kernel
  refine wpAny_Call_Name_kw (ld_blt I hga hm hb ?_)
  refine PyProof.Rows.callWith_builtin1 ?_ hse (by rfl)
  rw [hse]
  show wpAny _ _ (spliced ((false, eval (.GeneratorExp elt [⟨tg, iter, [], 0⟩] scope gpos) X.env) :: backTo pos (starEach [] X.env))) _ _ s
  refine Calls.spliced_cons ?_
  have hfree : ∀ y ∈ scope.names, y.2 = .free → ∃ c, X.env.cells.lookup y.1 = some c := fun y hy e => by
    rcases ok.free y hy e with k | k
    · exact I.ok.has _ (.inl k)
    · exact I.ok.has _ (.inr k)
  refine wpAny_GeneratorExp_make ok.co (closure_ok hfree) ok.nocell ok.dot ok.kind hr.depth (thn (hi.run pins s σ H _ I h) fun xv s1 hx => thn hx fun itv s2 h2 => ?_) hs
  obtain ⟨it, fp, tn, J, H2, e, I2, T, st2, f2, ps, hP, ht, q⟩ := h2
  subst e
  refine ⟨I2.nolimit, ?_⟩
  have hPs : s2.heap.get? P = some { cls := .none, data := .fields ps } := I2.hok P _ hP
  have cd : PySem.W.CodeHd s2.heap c P := TB.code.keeps I2.bk
  -- behind the making of the code object
  have cont : ∀ (code : Value) (s4 : Shared) (ps' : Array Value), Inv X pins σ (upd H2 P (.tbl ps')) s4 → TriplesOk ps'.toList → (∀ b o, b ≠ P → s2.heap.get? b = some o → s4.heap.get? b = some o) → s2.heap.objs.size ≤ s4.heap.objs.size →
      wpAny (model X.prog X.w) X.A (builtinsFor X.env.globals X.env.builtins) (fun bi s₄ =>
        ∀ h', h'.Ns s₄.heap.objs.size (fun y => if y = ".0" then some (.ref it) else none) → Heap.SameBut s₄.heap.objs.size (s₄.heap.push { cls := .type "frame", data := .dict #[] }) h' →
          (fun u s5 => wpAny (model X.prog X.w) X.A (spliced (backTo pos (starEach [] X.env))) (fun us s6 => wpAny (model X.prog X.w) X.A (call (.builtin "all") (u :: us)) (EP X pins σ Q) X.xe s6) X.xe s5) (.ref h'.objs.size) { s₄ with
            gens := s₄.gens.push (.fresh (.compStart (.GeneratorExp elt [⟨tg, iter, [], 0⟩] scope gpos) 0 (.ref it) .none (genEnv scope (cloFrom X.env.cells scope.names []) s₄.heap.objs.size code bi X.env))),
            toks := s₄.toks + 1 + 1 + 1,
            heap := h'.push { cls := .type "generator", data := .fields #[.int s₄.gens.size 0, .str "<genexpr>" (s₄.toks + 1), .str (X.env.qual ++ "<genexpr>") (s₄.toks + 1 + 1)] } }) X.xe s4 := by
    intro code s4 ps' I4 ht' kp4 sz4
    obtain ⟨bm, ob, e1, e2, e3, e4, e5, e6, e7, e8⟩ := TB.bm
    refine wpAny_builtinsFor (m := X.mg) (by rw [I4.ok.glob]; exact I4.mod.glob.keeps I4.bk) e1 e2 (I4.bk _ _ e5) e6 e7 e8 ?_
    intro h' hn' hs'
    generalize hcenv : genEnv scope (cloFrom X.env.cells scope.names []) s4.heap.objs.size code builtinsNs X.env = cenv
    generalize hgo : ({ cls := .type "generator", data := .fields #[.int s4.gens.size 0, .str "<genexpr>" (s4.toks + 1), .str (X.env.qual ++ "<genexpr>") (s4.toks + 1 + 1)] } : Obj) = go
    have nfp : ∀ b ∈ fp, b ≠ P := fun b hb z => by
      have q1 := (f2 b hb).1
      rw [z, hP] at q1
      cases q1
    have f4 : ∀ b ∈ fp, FpOk X pins (upd H2 P (.tbl ps')) b ∧ b < s4.heap.objs.size := fun b hb => by
      obtain ⟨o, eo, _⟩ := T.obj _ _ st2 b hb
      refine ⟨⟨?_, (f2 b hb).2⟩, Nat.lt_of_lt_of_le (Heap.lt_size eo) sz4⟩
      rw [upd_ne (nfp b hb)]
      exact (f2 b hb).1
    have st4 : tn 0 s4.heap := T.keep _ _ _ st2 fun b hb o eo => kp4 b o (nfp b hb) eo
    have hgp : ∀ h : Heap, (h.push go).get? h.objs.size = some go := fun h => by subst hgo; exact Heap.get?_push_size _ rfl
    have hgd : go.data = .fields #[.int s4.gens.size 0, .str "<genexpr>" (s4.toks + 1), .str (X.env.qual ++ "<genexpr>") (s4.toks + 1 + 1)] := by subst hgo; rfl
    have hgc : go.cls = .type "generator" := by subst hgo; rfl
    have hgs : go.slots = #[] := by subst hgo; rfl
    have hA : ((X.A.in1.in1).deeper cenv).frames = some (cenv :: X.stack) := Around.frames_deeper (show X.A.in1.in1.frames = some X.stack from I4.ok.frames)
    have hrA : Room k ((X.A.in1.in1).deeper cenv) := by
      have h1 := hr.dp
      have h2 := hr.un
      refine ⟨hr.hd, ?_, ?_⟩
      · show X.A.depth + 1 + 3 * k + 5 < _
        omega
      · show X.A.units + 1 + 1 + 3 + 16 * k + 200 < _
        omega
    have I5 : Inv (gxCx X ((X.A.in1.in1).deeper cenv) s4 (upd H2 P (.tbl ps')) N' cenv fp [(h'.objs.size, go)]) [] (capt σ cap N'.length) (upd H2 P (.tbl ps'))
        { s4 with gens := s4.gens.push (.fresh (.compStart (.GeneratorExp elt [⟨tg, iter, [], 0⟩] scope gpos) 0 (.ref it) .none cenv)), toks := s4.toks + 1 + 1 + 1, heap := h'.push go } := by
      rw [← hcenv]
      exact gx_start (it := .ref it) (code := code) I4 ok rfl (by rw [hcenv]; exact hA) hr.hd f4 rfl (fun v z => by rw [hgd] at z; cases z) (hgp _) hn' hs'
    generalize hX' : gxCx X ((X.A.in1.in1).deeper cenv) s4 (upd H2 P (.tbl ps')) N' cenv fp [(h'.objs.size, go)] = X' at I5
    generalize hs5 : ({ s4 with gens := s4.gens.push (.fresh (.compStart (.GeneratorExp elt [⟨tg, iter, [], 0⟩] scope gpos) 0 (.ref it) .none cenv)), toks := s4.toks + 1 + 1 + 1, heap := h'.push go } : Shared) = s5 at I5 ⊢
    have hh5 : s5.heap = h'.push go := by rw [← hs5]
    have hg5 : s5.gens = s4.gens.push (.fresh (.compStart (.GeneratorExp elt [⟨tg, iter, [], 0⟩] scope gpos) 0 (.ref it) .none cenv)) := by rw [← hs5]
    have hgen : ∀ {pins : List (Addr × Obj)} {σ : L2.St} {H : Hp} {s : Shared}, Inv X' pins σ H s → s.heap.IsGen h'.objs.size s4.gens.size := fun {pl σ' H' s'} J => by
      have q1 := (J.pin (h'.objs.size, go) (List.mem_append_left _ (by rw [← hX']; exact List.mem_singleton.mpr rfl))).1
      exact ⟨go, _, _, q1, hgc, hgd, hgs⟩
    have sz1 : h'.objs.size = s4.heap.objs.size + 1 := by rw [hs'.1, Heap.size_push]
    have kp5 : ∀ b o, s4.heap.get? b = some o → s5.heap.get? b = some o := fun b o e => by
      rw [hh5]
      exact Heap.get?_push_of_some _ (hs'.extBut b o (Nat.ne_of_lt (Heap.lt_size e)) (Heap.get?_push_of_some _ e))
    have st5 : tn 0 s5.heap := T.keep _ _ _ st4 fun b hb o eo => kp5 b o eo
    obtain ⟨W, ⟨m0, w0⟩, turn⟩ := q ps' ht'
    -- back in the def's frame
    have back : ∀ {pl : List (Addr × Obj)} {σ' : L2.St} {H' : Hp} {s' : Shared}, Inv X' pl σ' H' s' → Inv X pins σ H' s' := fun {pl σ' H' s'} J => by
      have o1 := J.os
      have o2 := J.base
      have o3 := J.hok
      rw [← hX'] at o1 o2 o3
      exact I4.call' (ch := fp) o1 o2 o3 J.bare fun b hb => ⟨(f4 b hb).1.2.2.2.1, (f4 b hb).1.2.1, (f4 b hb).1.2.2.2.2.1, (f4 b hb).1.2.2.2.2.2⟩
    have pg := hg ((X.A.in1.in1).deeper cenv) s4 (upd H2 P (.tbl ps')) (cloFrom X.env.cells scope.names []) s4.heap.objs.size code fp [(h'.objs.size, go)] hrA
    have pe := he ((X.A.in1.in1).deeper cenv) s4 (upd H2 P (.tbl ps')) (cloFrom X.env.cells scope.names []) s4.heap.objs.size code fp [(h'.objs.size, go)] hrA
    rw [hcenv, hX'] at pg pe
    have eenv : X'.env = cenv := by rw [← hX']; rfl
    have ep : X'.prog = X.prog := by rw [← hX']; rfl
    have ew : X'.w = X.w := by rw [← hX']; rfl
    have eK : X'.K = X.K := by rw [← hX']; rfl
    have T' : Turn X'.prog X'.w X'.K tg J fp it tn := by rw [ep, ew, eK]; exact T
    have nf5 : ∀ b ∈ fp, (upd H2 P (.tbl ps')) b = none := fun b hb => (f4 b hb).1.1
    refine Calls.spliced_nil ?_
    have loop := seg_gxLoop (X' := X') (A := X.A.in1.in1) (elt := elt) (tg := tg) (iter := iter) (scope := scope) (pos := gpos) (it := it) (fp := fp) (tn := tn) (J := J) (g := g) (te := te) (W := W) (σ0 := capt σ cap N'.length) (a := h'.objs.size) (gi := s4.gens.size) (QT := Q (.bl true)) (QF := Q (.bl false))
      (by rw [gx_over, eenv, ← hX']; rfl) (by rw [← hX']; rfl) (by rw [← hX']; rfl) (by rw [← hX']; rfl) (by rw [eenv, ← hcenv]; exact ok.co) T' pg pe hgen (fun p hp b hb z => by
        rw [← hX'] at hp
        have hp' : p = (h'.objs.size, go) := by
          have hp2 : p ∈ [(h'.objs.size, go)] := hp
          simpa using hp2
        subst hp'
        have z' : h'.objs.size = b := z
        have := (f4 b hb).2
        rw [← z', sz1] at this
        exact absurd this (Nat.not_lt.mpr (Nat.le_succ _))) turn m0 (m0 + 1) 0 (s5.setGen s4.gens.size .running) (s5.setGen s4.gens.size .running) _ (Nat.lt_succ_self _) w0 (inv_gens I5 (allBare_setGen I5.bare rfl)) nf5 st5
    have start := seg_gxStart (M := model X'.prog X'.w) T' (s := s5.setGen s4.gens.size .running) st5 loop
    rw [ep, ew, eenv] at start
    refine call_all_gx (a := h'.objs.size) (g := s4.gens.size) (n := m0 + 1) (show X.A.handled = none from hr.hd) (show X.A.in1.depth < recursionLimit from hr.depth) (hgen I5) I5.nolimit (by rw [hg5]; exact Array.getElem?_push_size ..) start
      (fun s₁ ⟨H', J, _⟩ => J.bare) (fun s₁ G h2 ⟨H', J, qq⟩ hG hk => ?_) (fun s₁ G ⟨σ', H', pl, J, qq⟩ hG => ?_)
    · have J2 : Inv X pins σ H' { s₁ with gens := G, heap := h2 } := (inv_gens (back J) hG).kept hk
      exact ⟨.bl true, H', J2, rfl, qq⟩
    · exact ⟨.bl false, H', inv_gens (back J) hG, rfl, qq⟩
  cases hf : codeAmong gpos ps.toList with
  | none =>
    refine wpAny_genexprCodeX hcode (cd.code hPs ht) (cd.tab hPs) hf fun c' h' tk hx hge hlt hco' _ htab' _ => ?_
    obtain ⟨o1, vs, f1, tf, fl, tg1, inF, tx, tt, op, _, _, _, _, _, _, _, _, _, htr, _⟩ := hco'
    have J := inv_tab (more := #[rawInt gpos.line, rawInt gpos.col, .ref c']) (h' := h') (g' := s2.gens) (d' := s2.drawn) (t' := tk) I2 hP hx htab'.2 I2.bare
    exact cont _ { s2 with heap := h', toks := tk } _ J htr hx (Nat.le_trans hge (Nat.le_of_lt hlt))
  | some cv =>
    refine wpAny_genexprCode_hit hcode (cd.code hPs ht) hf ?_
    exact cont cv s2 ps (by rw [upd_self' hP]; exact I2) ht (fun b o _ e => e) (Nat.le_refl _)
end
end GX

set_option Elab.async false
set_option linter.all false
set_option maxRecDepth 100000
set_option maxHeartbeats 2000000
/-! The mirror's own language: plain data, slots, the dice, what a statement leads to -/
namespace Lay
open PySem

abbrev D := PyData
/-- what a slot holds: data; a list of the frame's own that is still changed; the dice -/
inductive SV where
  | v (d : D)
  | own (ds : List D)
  | dice
  | dct (ks : List Int)
  | dT (kvs : List (List Int × D))
  | dL (kvs : List (List Int × List D))
abbrev En := List (Option SV)
abbrev Dice := List Int
/-- the dice go through; an error by its name; none: not told -/
def M (α : Type) : Type := Dice → Option (Except Str α × Dice)
namespace M
variable {α β : Type}
def pure (a : α) : M α := fun δ => some (.ok a, δ)
def err (e : Str) : M α := fun δ => some (.error e, δ)
def stuck : M α := fun _ => none
def bind (m : M α) (k : α → M β) : M β := fun δ => match m δ with
  | some (.ok a, δ') => k a δ'
  | some (.error e, δ') => some (.error e, δ')
  | none => none
def lift (o : Option α) : M α := match o with
  | some a => pure a
  | none => stuck
/-- an error is not told of here -/
def noErr (m : M α) : M α := fun δ => match m δ with
  | some (.ok a, δ') => some (.ok a, δ')
  | _ => none
theorem bind_some {m : M α} {k : α → M β} {δ : Dice} {r : Except Str β × Dice} (h : bind m k δ = some r) : (∃ a δ1, m δ = some (.ok a, δ1) ∧ k a δ1 = some r) ∨ ∃ e δ1, m δ = some (.error e, δ1) ∧ r = (.error e, δ1) := by
  unfold bind at h
  split at h
  · rename_i a δ' e; exact .inl ⟨a, δ', e, h⟩
  · rename_i e' δ' e; exact .inr ⟨e', δ', e, (Option.some.inj h).symm⟩
  · cases h
theorem lift_some {o : Option α} {δ : Dice} {r : Except Str α × Dice} (h : lift o δ = some r) : ∃ a, o = some a ∧ r = (.ok a, δ) := by
  cases o with
  | none => cases h
  | some a => exact ⟨a, rfl, (Option.some.inj h).symm⟩
theorem noErr_some {m : M α} {δ : Dice} {r : Except Str α × Dice} (h : noErr m δ = some r) : ∃ a δ', m δ = some (.ok a, δ') ∧ r = (.ok a, δ') := by
  unfold noErr at h
  split at h
  · rename_i a δ' e; exact ⟨a, δ', e, (Option.some.inj h).symm⟩
  · cases h
@[simp] theorem pure_bind (a : α) (k : α → M β) : bind (pure a) k = k a := rfl
@[simp] theorem err_bind (e : Str) (k : α → M β) : bind (err e) k = err e := rfl
@[simp] theorem stuck_bind (k : α → M β) : bind (stuck : M α) k = stuck := rfl
@[simp] theorem lift_some' (a : α) : lift (some a) = pure a := rfl
@[simp] theorem lift_none' : lift (none : Option α) = stuck := rfl
@[simp] theorem noErr_pure (a : α) : noErr (pure a) = pure a := rfl
theorem bind_assoc {γ : Type} (m : M α) (f : α → M β) (g : β → M γ) : bind (bind m f) g = bind m fun a => bind (f a) g := by
  funext δ
  unfold bind
  cases m δ with
  | none => rfl
  | some r =>
    obtain ⟨x, δ'⟩ := r
    cases x <;> rfl
end M
abbrev EX := En → M D
abbrev EB := En → M Bool
abbrev EL := En → M (List D)
/-- where a statement leads -/
inductive Fl where
  | nx (ρ : En)
  | rt (d : D)
  | bk (ρ : En)
  | ct (ρ : En)
abbrev ST := En → M Fl

/-! ### slots -/
def getD (ρ : En) (i : Nat) : Option D := match ρ[i]? with
  | some (some (.v d)) => some d
  | _ => none
def getO (ρ : En) (i : Nat) : Option (List D) := match ρ[i]? with
  | some (some (.own ds)) => some ds
  | _ => none
/-- no slot holds a dict of own lists -/
def noL : En → Bool
  | [] => true
  | some (.dL _) :: _ => false
  | _ :: r => noL r
theorem noL_at : ∀ {ρ : En}, noL ρ = true → ∀ {i : Nat} {kvs : List (List Int × List D)}, ρ[i]? ≠ some (some (.dL kvs))
  | [], _, i, kvs, e => by simp at e
  | some (.dL _) :: _, h, _, _, _ => by cases h
  | none :: r, h, 0, _, e => by simp at e
  | none :: r, h, i + 1, _, e => noL_at (ρ := r) h (by simpa using e)
  | some (.v _) :: r, h, 0, _, e => by simp at e
  | some (.v _) :: r, h, i + 1, _, e => noL_at (ρ := r) h (by simpa using e)
  | some (.own _) :: r, h, 0, _, e => by simp at e
  | some (.own _) :: r, h, i + 1, _, e => noL_at (ρ := r) h (by simpa using e)
  | some .dice :: r, h, 0, _, e => by simp at e
  | some .dice :: r, h, i + 1, _, e => noL_at (ρ := r) h (by simpa using e)
  | some (.dct _) :: r, h, 0, _, e => by simp at e
  | some (.dct _) :: r, h, i + 1, _, e => noL_at (ρ := r) h (by simpa using e)
  | some (.dT _) :: r, h, 0, _, e => by simp at e
  | some (.dT _) :: r, h, i + 1, _, e => noL_at (ρ := r) h (by simpa using e)
def setV (ρ : En) (i : Nat) (d : D) : En := ρ.set i (some (.v d))
theorem noL_setV {d : D} : ∀ {ρ : En} {i : Nat}, noL ρ = true → noL (setV ρ i d) = true
  | [], _, _ => rfl
  | some (.dL _) :: _, _, h => by cases h
  | none :: r, 0, h => h
  | none :: r, i + 1, h => noL_setV (ρ := r) (i := i) h
  | some (.v _) :: r, 0, h => h
  | some (.v _) :: r, i + 1, h => noL_setV (ρ := r) (i := i) h
  | some (.own _) :: r, 0, h => h
  | some (.own _) :: r, i + 1, h => noL_setV (ρ := r) (i := i) h
  | some .dice :: r, 0, h => h
  | some .dice :: r, i + 1, h => noL_setV (ρ := r) (i := i) h
  | some (.dct _) :: r, 0, h => h
  | some (.dct _) :: r, i + 1, h => noL_setV (ρ := r) (i := i) h
  | some (.dT _) :: r, 0, h => h
  | some (.dT _) :: r, i + 1, h => noL_setV (ρ := r) (i := i) h
def setO (ρ : En) (i : Nat) (ds : List D) : En := ρ.set i (some (.own ds))
def clr (ρ : En) : List Nat → En
  | [] => ρ
  | i :: is => (clr ρ is).set i none
/-- the own list becomes data -/
def frz (i : Nat) (ρ : En) : En := match ρ[i]? with
  | some (some (.own ds)) => ρ.set i (some (.v (.list ds)))
  | _ => ρ
/-- a target: a name, a tuple of targets -/
inductive Tg where
  | n (i : Nat)
  | t (ts : List Tg)
mutual
def bindT : Tg → En → D → Option En
  | .n i, ρ, d => if i < ρ.length then some (setV ρ i d) else none
  | .t ts, ρ, .tuple ds => bindTs ts ρ ds
  | .t _, _, _ => none
def bindTs : List Tg → En → List D → Option En
  | [], ρ, [] => some ρ
  | t :: ts, ρ, d :: ds => match bindT t ρ d with
    | some ρ1 => bindTs ts ρ1 ds
    | none => none
  | _, _, _ => none
end
mutual
def slotsT : Tg → List Nat
  | .n i => [i]
  | .t ts => slotsTs ts
def slotsTs : List Tg → List Nat
  | [] => []
  | t :: ts => slotsT t ++ slotsTs ts
end

/-! ### expressions -/
def eVar (i : Nat) : EX := fun ρ => M.lift (getD ρ i)
def eC (d : D) : EX := fun _ => M.pure d
def eUn (op : D → Option D) (a : EX) : EX := fun ρ => M.bind (a ρ) fun x => M.lift (op x)
def eBin (op : D → D → Option D) (a b : EX) : EX := fun ρ => M.bind (a ρ) fun x => M.bind (b ρ) fun y => M.lift (op x y)
def eChain (op1 op2 : D → D → Option D) (a b c : EX) : EX := fun ρ => M.bind (a ρ) fun x => M.bind (b ρ) fun y => M.bind (M.lift (op1 x y)) fun z => match z with
  | .bool true => M.bind (c ρ) fun w => M.lift (op2 y w)
  | .bool false => M.pure (.bool false)
  | _ => M.stuck
def eChain3 (op1 op2 op3 : D → D → Option D) (a b c d : EX) : EX := fun ρ => M.bind (a ρ) fun x => M.bind (b ρ) fun y => M.bind (M.lift (op1 x y)) fun z => match z with
  | .bool true => M.bind (c ρ) fun w => M.bind (M.lift (op2 y w)) fun z2 => match z2 with
    | .bool true => M.bind (d ρ) fun u => M.lift (op3 w u)
    | .bool false => M.pure (.bool false)
    | _ => M.stuck
  | .bool false => M.pure (.bool false)
  | _ => M.stuck
/-- a truth value of data -/
def toB : D → M Bool
  | .bool b => M.pure b
  | _ => M.stuck
def bOf (a : EX) : EB := fun ρ => M.bind (a ρ) toB
def bNot (a : EB) : EB := fun ρ => M.bind (a ρ) fun x => M.pure (!x)
def bAnd (a b : EB) : EB := fun ρ => M.bind (a ρ) fun x => if x = true then b ρ else M.pure false
def bOr (a b : EB) : EB := fun ρ => M.bind (a ρ) fun x => if x = true then M.pure true else b ρ
def eAnd (a b : EX) : EX := fun ρ => M.bind (a ρ) fun x => match x with
  | .bool true => b ρ
  | .bool false => M.pure (.bool false)
  | _ => M.stuck
def eOr (a b : EX) : EX := fun ρ => M.bind (a ρ) fun x => match x with
  | .bool true => M.pure (.bool true)
  | .bool false => b ρ
  | _ => M.stuck
def eNot (a : EX) : EX := fun ρ => M.bind (a ρ) fun x => match x with
  | .bool c => M.pure (.bool !c)
  | _ => M.stuck
def eIf (c : EB) (a b : EX) : EX := fun ρ => M.bind (c ρ) fun x => if x = true then a ρ else b ρ
def lNil : EL := fun _ => M.pure []
def lCons (a : EX) (r : EL) : EL := fun ρ => M.bind (a ρ) fun x => M.bind (r ρ) fun xs => M.pure (x :: xs)
def eTup (l : EL) : EX := fun ρ => M.bind (l ρ) fun xs => if xs.length ≤ sizeLine then M.pure (.tuple xs) else M.stuck
def eLst (l : EL) : EX := fun ρ => M.bind (l ρ) fun xs => if xs.length ≤ sizeLine then M.pure (.list xs) else M.stuck
/-- a call of a mirror (or of a built-in) -/
def eCall (m : List D → M D) (l : EL) : EX := fun ρ => M.bind (l ρ) m
def eCallB (op : List D → Option D) (l : EL) : EX := fun ρ => M.bind (l ρ) fun xs => M.lift (op xs)
/-- the own list at i: its length, an item -/
def eOwnLen (i : Nat) : EX := fun ρ => M.lift ((getO ρ i).map fun ds => .int ds.length)
def eOwnIx (i : Nat) (a : EX) : EX := fun ρ => match getO ρ i with
  | some ds => M.bind (a ρ) fun x => M.lift (match x with
    | .int k => L2.atI ds k
    | _ => none)
  | none => M.stuck
def dAt (ρ : En) (i : Nat) : Bool := match ρ[i]? with
  | some (some .dice) => true
  | _ => false
/-- f(dice, ..): the dice stand in the slot i -/
def eCallD (i : Nat) (m : List D → M D) (l : EL) : EX := fun ρ => if dAt ρ i = true then M.bind (l ρ) m else M.stuck

/-! ### what is walked -/
/-- the turns of a comprehension: one list out -/
def compL (tg : Tg) (conds : EB) (elt : EX) (vs : List Nat) : List D → En → M (List D)
  | [], _ => M.pure []
  | d :: ds, ρ => M.bind (M.lift (bindT tg (clr ρ vs) d)) fun ρ1 => M.bind (M.noErr (conds ρ1)) fun c =>
      if c = true then M.bind (M.noErr (elt ρ1)) fun y => M.bind (compL tg conds elt vs ds ρ) fun ys => M.pure (y :: ys)
      else compL tg conds elt vs ds ρ
def bYes : EB := fun _ => M.pure true
def eComp (tg : Tg) (it : EL) (conds : EB) (elt : EX) (vs : List Nat) : EX := fun ρ => M.bind (it ρ) fun ds => M.bind (compL tg conds elt vs ds ρ) fun ys =>
  if ys.length ≤ sizeLine then M.pure (.list ys) else M.stuck
/-- the slots that a generator expression begins with -/
def captD (ρ : En) (cap : List Nat) (n : Nat) : En := cap.map (fun j => (getD ρ j).map SV.v) ++ List.replicate (n - cap.length) none
def allL (tg : Tg) (elt : EX) : List D → En → M Bool
  | [], _ => M.pure true
  | d :: ds, ρ => M.bind (M.lift (bindT tg ρ d)) fun ρ1 => M.bind (M.bind (M.noErr (elt ρ1)) toB) fun b => if b = true then allL tg elt ds ρ else M.pure false
def eAll (tg : Tg) (it : EL) (elt : EX) (cap : List Nat) (n : Nat) : EX := fun ρ => M.bind (it ρ) fun ds => M.bind (allL tg elt ds (captD ρ cap n)) fun b => M.pure (.bool b)
def itOf : D → Option (List D)
  | .list ds => some ds
  | .tuple ds => some ds
  | _ => none
def itL (a : EX) : EL := fun ρ => M.bind (a ρ) fun x => match x with
  | .list ds => M.pure ds
  | _ => M.stuck
def itT (a : EX) : EL := fun ρ => M.bind (a ρ) fun x => match x with
  | .tuple ds => M.pure ds
  | _ => M.stuck
def rngL (lo : Int) (n : Nat) : List D := (List.range n).map fun i => .int (lo + (i : Nat))
def inR (i : Int) : Bool := decide (-(2 ^ 62) ≤ i) && decide (i < 2 ^ 62)
def itR1 (a : EX) : EL := fun ρ => M.bind (a ρ) fun x => match x with
  | .int j => if inR j = true then M.pure (rngL 0 j.toNat) else M.stuck
  | _ => M.stuck
def itR2 (a b : EX) : EL := fun ρ => M.bind (a ρ) fun x => M.bind (b ρ) fun y => match x, y with
  | .int i, .int j => if (inR i && inR j) = true then M.pure (rngL i (j - i).toNat) else M.stuck
  | _, _ => M.stuck
def zipD : List D → List D → List D
  | x :: xs, y :: ys => .tuple [x, y] :: zipD xs ys
  | _, _ => []
def itZ (a b : EX) : EL := fun ρ => M.bind (a ρ) fun x => M.bind (b ρ) fun y => M.lift (match itOf x, itOf y with
  | some ds, some es => some (zipD ds es)
  | _, _ => none)

/-! ### statements -/
def sNop : ST := fun ρ => M.pure (.nx ρ)
def sSeq (a b : ST) : ST := fun ρ => M.bind (a ρ) fun f => match f with
  | .nx ρ' => b ρ'
  | f => M.pure f
def sFrz (i : Nat) (a : ST) : ST := fun ρ => a (frz i ρ)
def sClr (vs : List Nat) (a : ST) : ST := fun ρ => a (clr ρ vs)
def sSet (i : Nat) (a : EX) : ST := fun ρ => M.bind (a ρ) fun x => if i < ρ.length then M.pure (.nx (setV ρ i x)) else M.stuck
def sAsg (tg : Tg) (a : EX) : ST := fun ρ => M.bind (a ρ) fun x => M.bind (M.lift (bindT tg ρ x)) fun ρ' => M.pure (.nx ρ')
def sOwn (i : Nat) (l : EL) : ST := fun ρ => M.bind (l ρ) fun xs => if xs.length ≤ sizeLine ∧ i < ρ.length ∧ noL ρ = true then M.pure (.nx (setO ρ i xs)) else M.stuck
def sApp (i : Nat) (a : EX) : ST := fun ρ => match getO ρ i with
  | some ds => M.bind (a ρ) fun x => if ds.length < sizeLine then M.pure (.nx (setO ρ i (ds ++ [x]))) else M.stuck
  | none => M.stuck
def sExt (i : Nat) (a : EX) : ST := fun ρ => match getO ρ i with
  | some ds => M.bind (a ρ) fun x => match x with
    | .list es => if ds.length + es.length ≤ sizeLine then M.pure (.nx (setO ρ i (ds ++ es))) else M.stuck
    | _ => M.stuck
  | none => M.stuck
def sSetIx (i : Nat) (k a : EX) : ST := fun ρ => match getO ρ i with
  | some ds => M.bind (a ρ) fun x => M.bind (k ρ) fun y => match y with
    | .int z => (match L2.ixN ds.length z with
      | some j => M.pure (.nx (setO ρ i (ds.set j x)))
      | none => M.stuck)
    | _ => M.stuck
  | none => M.stuck
def sPar (i j : Nat) (a b : EX) : ST := fun ρ => M.bind (a ρ) fun x => M.bind (b ρ) fun y => if i < ρ.length ∧ j < ρ.length then M.pure (.nx (setV (setV ρ i x) j y)) else M.stuck
def sAug (i : Nat) (op : D → D → Option D) (a : EX) : ST := fun ρ => match getD ρ i with
  | some x => M.bind (a ρ) fun y => M.bind (M.lift (op x y)) fun z => M.pure (.nx (setV ρ i z))
  | none => M.stuck
def sExp (a : EX) : ST := fun ρ => M.bind (a ρ) fun _ => M.pure (.nx ρ)
def sIf (c : EB) (a b : ST) : ST := fun ρ => M.bind (c ρ) fun x => if x = true then a ρ else b ρ
def sRet (a : EX) : ST := fun ρ => M.bind (a ρ) fun x => M.pure (.rt x)
def sRetN : ST := fun _ => M.pure (.rt .none)
def sRaise (a : EX) : ST := fun ρ => M.bind (a ρ) fun x => match x with
  | .str nm => if nm.length ≤ 1000 then M.err nm else M.stuck
  | _ => M.stuck
def sBrk : ST := fun ρ => M.pure (.bk ρ)
def sCnt : ST := fun ρ => M.pure (.ct ρ)
/-- the turns of a for; the slots vs are forgotten at each turn's beginning and behind the loop -/
def forL (tg : Tg) (vs : List Nat) (b : ST) : List D → ST
  | [], ρ => M.pure (.nx (clr ρ vs))
  | d :: ds, ρ => M.bind (M.lift (bindT tg (clr ρ vs) d)) fun ρ1 => M.bind (b ρ1) fun f => match f with
    | .nx ρ2 => forL tg vs b ds ρ2
    | .ct ρ2 => forL tg vs b ds ρ2
    | .bk ρ2 => M.pure (.nx (clr ρ2 vs))
    | .rt d => M.pure (.rt d)
def sFor (tg : Tg) (it : EL) (vs : List Nat) (b : ST) : ST := fun ρ => M.bind (it ρ) fun ds => forL tg vs b ds ρ
def whL (c : EB) (b : ST) : Nat → ST
  | 0, _ => M.stuck
  | n + 1, ρ => M.bind (c ρ) fun x => if x = true then M.bind (b ρ) fun f => match f with
      | .nx ρ2 => whL c b n ρ2
      | .ct ρ2 => whL c b n ρ2
      | .bk ρ2 => M.pure (.nx ρ2)
      | .rt d => M.pure (.rt d)
    else M.pure (.nx ρ)
def sWh (n : Nat) (c : EB) (b : ST) : ST := fun ρ => whL c b n ρ

/-! ### a def -/
def runF : Fl → M D
  | .nx _ => M.pure .none
  | .rt d => M.pure d
  | _ => M.stuck
/-- np parameters, n slots -/
def mkF (np n : Nat) (b : ST) (ds : List D) : M D := if ds.length = np then M.bind (b (ds.map (fun d => some (.v d)) ++ List.replicate (n - np) none)) runF else M.stuck
/-- .. its first parameter the dice -/
def mkD (np n : Nat) (b : ST) (ds : List D) : M D := if ds.length = np then M.bind (b (some .dice :: ds.map (fun d => some (.v d)) ++ List.replicate (n - np - 1) none)) runF else M.stuck
end Lay

set_option Elab.async false
set_option linter.all false
set_option maxRecDepth 100000
set_option maxHeartbeats 2000000
/-! How heaps bear data; what the readings of HandS give -/
namespace Lay
open PySem PySem.Spec PyProof.Rows L2

mutual
/-- v is the data d in the heap F -/
inductive Rp (F : Hp) : V → D → Prop
  | non : Rp F .non .none
  | bl (b : Bool) : Rp F (.bl b) (.bool b)
  | int (i : Int) : Rp F (.int i) (.int i)
  | str (x : Str) : Rp F (.str x) (.str x)
  | lst {a : Addr} {xs : List V} {ds : List D} : F a = some (.lst xs) → RpA F xs ds → Rp F (.ref a) (.list ds)
  | tup {a : Addr} {xs : List V} {ds : List D} : F a = some (.tup xs) → RpA F xs ds → Rp F (.ref a) (.tuple ds)
inductive RpA (F : Hp) : List V → List D → Prop
  | nil : RpA F [] []
  | cons {v : V} {vs : List V} {d : D} {ds : List D} : Rp F v d → RpA F vs ds → RpA F (v :: vs) (d :: ds)
end
/-- all of F is in F' -/
def Ext (F F' : Hp) : Prop := ∀ a o, F a = some o → F' a = some o
theorem Ext.refl (F : Hp) : Ext F F := fun _ _ h => h
theorem Ext.trans {F F1 F2 : Hp} (a : Ext F F1) (b : Ext F1 F2) : Ext F F2 := fun x o h => b x o (a x o h)
mutual
theorem Rp.mono {F F' : Hp} (e : Ext F F') : ∀ {v : V} {d : D}, Rp F v d → Rp F' v d
  | _, _, .non => .non
  | _, _, .bl b => .bl b
  | _, _, .int i => .int i
  | _, _, .str x => .str x
  | _, _, .lst h r => .lst (e _ _ h) (RpA.mono e r)
  | _, _, .tup h r => .tup (e _ _ h) (RpA.mono e r)
theorem RpA.mono {F F' : Hp} (e : Ext F F') : ∀ {vs : List V} {ds : List D}, RpA F vs ds → RpA F' vs ds
  | _, _, .nil => .nil
  | _, _, .cons h r => .cons (Rp.mono e h) (RpA.mono e r)
end
mutual
theorem Rp.dp {K : PySem.W.Frag} {F H : Hp} (e : Ext F H) : ∀ {v : V} {d : D}, Rp F v d → Dp K H v d
  | _, _, .non => .non
  | _, _, .bl b => .bl b
  | _, _, .int i => .int i
  | _, _, .str x => .str x
  | _, _, .lst h r => .lst (SqL.of (e _ _ h)) (RpA.dp e r)
  | _, _, .tup h r => .tup (SqT.of (e _ _ h)) (RpA.dp e r)
theorem RpA.dp {K : PySem.W.Frag} {F H : Hp} (e : Ext F H) : ∀ {vs : List V} {ds : List D}, RpA F vs ds → DpAll K H vs ds
  | _, _, .nil => .nil
  | _, _, .cons h r => .cons (Rp.dp e h) (RpA.dp e r)
end
theorem RpA.length {F : Hp} : ∀ {vs : List V} {ds : List D}, RpA F vs ds → vs.length = ds.length
  | _, _, .nil => rfl
  | _, _, .cons _ r => congrArg (· + 1) (RpA.length r)
theorem RpA.get {F : Hp} : ∀ {vs : List V} {ds : List D}, RpA F vs ds → ∀ {i : Nat} {d : D}, ds[i]? = some d → ∃ v, vs[i]? = some v ∧ Rp F v d
  | _, _, .nil, i, d, h => by simp at h
  | _, _, .cons h1 r, 0, d, h => by simp at h; subst h; exact ⟨_, rfl, h1⟩
  | _, _, .cons h1 r, i + 1, d, h => by
    obtain ⟨v, e, q⟩ := RpA.get r (i := i) (d := d) (by simpa using h)
    exact ⟨v, by simpa using e, q⟩
theorem RpA.get' {F : Hp} : ∀ {vs : List V} {ds : List D}, RpA F vs ds → ∀ {i : Nat} {v : V}, vs[i]? = some v → ∃ d, ds[i]? = some d ∧ Rp F v d
  | _, _, .nil, i, d, h => by simp at h
  | _, _, .cons h1 r, 0, d, h => by simp at h; subst h; exact ⟨_, rfl, h1⟩
  | _, _, .cons h1 r, i + 1, d, h => by
    obtain ⟨v, e, q⟩ := RpA.get' r (i := i) (v := d) (by simpa using h)
    exact ⟨v, by simpa using e, q⟩
theorem RpA.append {F : Hp} : ∀ {vs : List V} {ds : List D} {ws : List V} {es : List D}, RpA F vs ds → RpA F ws es → RpA F (vs ++ ws) (ds ++ es)
  | _, _, _, _, .nil, s => s
  | _, _, _, _, .cons h r, s => .cons h (RpA.append r s)
theorem RpA.set {F : Hp} {v : V} {d : D} (h : Rp F v d) : ∀ {vs : List V} {ds : List D} (i : Nat), RpA F vs ds → RpA F (vs.set i v) (ds.set i d)
  | _, _, _, .nil => .nil
  | _, _, 0, .cons _ r => .cons h r
  | _, _, i + 1, .cons q r => .cons q (RpA.set h i r)
theorem RpA.take {F : Hp} : ∀ {vs : List V} {ds : List D} (n : Nat), RpA F vs ds → RpA F (vs.take n) (ds.take n)
  | _, _, 0, _ => .nil
  | _, _, _ + 1, .nil => .nil
  | _, _, n + 1, .cons h r => .cons h (RpA.take n r)
theorem RpA.drop {F : Hp} : ∀ {vs : List V} {ds : List D} (n : Nat), RpA F vs ds → RpA F (vs.drop n) (ds.drop n)
  | _, _, 0, r => r
  | _, _, _ + 1, .nil => .nil
  | _, _, n + 1, .cons _ r => RpA.drop n r
theorem RpA.one {F : Hp} {vs : List V} {d : D} (h : RpA F vs [d]) : ∃ v, vs = [v] ∧ Rp F v d := by
  cases h with
  | cons h r => cases r; exact ⟨_, rfl, h⟩
theorem RpA.two {F : Hp} {vs : List V} {d e : D} (h : RpA F vs [d, e]) : ∃ v w, vs = [v, w] ∧ Rp F v d ∧ Rp F w e := by
  cases h with
  | cons h r => obtain ⟨w, rfl, q⟩ := r.one; exact ⟨_, w, rfl, h, q⟩

/-- what stands through a whole walk: the written part; the class of the one error; the tables of the defs with generator expressions -/
structure Gt where
  K : PySem.W.Frag
  CB : Addr
  tabs : List Addr
  lt : Addr
  lq : Str
/-- a table's code objects bear the name q -/
def CodesIn (H : Hp) (ps : Array Value) (q : Str) : Prop := ∀ (pos : Pos) (cv : Value), codeAmong pos ps.toList = some cv → ∃ c, cv = .ref c ∧ H c = some (LamX.CodeO c q)
theorem CodesIn.mono {H H' : Hp} {ps : Array Value} {q : Str} (h : CodesIn H ps q) (k : ∀ c, H c = some (LamX.CodeO c q) → H' c = some (LamX.CodeO c q)) : CodesIn H' ps q := fun pos cv e => by
  obtain ⟨c, e1, e2⟩ := h pos cv e
  exact ⟨c, e1, k c e2⟩
theorem codeO_list {c : Addr} {q : Str} (xs : List V) : LamX.CodeO c q ≠ .lst xs := fun z => by
  unfold LamX.CodeO at z
  cases z
/-- a def's entry: the frozen heap, the heap, the dice, what is wanted of an error -/
structure Ct where
  G : Gt
  aD : Addr
  F0 : Hp
  H0 : Hp
  E : XK
abbrev Gt.cons (G : Gt) : Gt := G
/-- the heap H, its frozen part F, the dice δ -/
structure Hs (G : Gt) (aD : Addr) (F H : Hp) (δ : Dice) : Prop where
  sub : Ext F H
  dF : F aD = none
  dH : H aD = some (.lst (δ.map V.int))
  tF : ∀ P ∈ G.tabs, F P = none
  tH : ∀ P ∈ G.tabs, ∃ ps : Array Value, H P = some (.tbl ps) ∧ TriplesOk ps.toList ∧ (P = G.lt → CodesIn H ps G.lq)
/-- from one heap to a later one -/
structure Step (G : Gt) (aD : Addr) (F H F' H' : Hp) : Prop where
  ex : Ext F F'
  new : ∀ a o, H a = some o → a ≠ aD → a ∉ G.tabs → F a = none → (∀ xs, o ≠ .tup xs) → F' a = none
  keep : ∀ a o, H a = some o → a ≠ aD → a ∉ G.tabs → H' a = some o
  dom : ∀ a, H a ≠ none → H' a ≠ none
theorem Step.refl {G : Gt} {aD : Addr} {F H : Hp} : Step G aD F H F H := ⟨Ext.refl F, fun _ _ _ _ _ h _ => h, fun _ _ h _ _ => h, fun _ h => h⟩
theorem Step.trans {G : Gt} {aD : Addr} {F H F1 H1 F2 H2 : Hp} (a : Step G aD F H F1 H1) (b : Step G aD F1 H1 F2 H2) : Step G aD F H F2 H2 :=
  ⟨a.ex.trans b.ex, fun x o h n1 n2 f nt => b.new x o (a.keep x o h n1 n2) n1 n2 (a.new x o h n1 n2 f nt) nt, fun x o h n1 n2 => b.keep x o (a.keep x o h n1 n2) n1 n2, fun x h => b.dom x (a.dom x h)⟩
theorem Hs.dne {G : Gt} {aD : Addr} {F H : Hp} {δ : Dice} (h : Hs G aD F H δ) : H aD ≠ none := by rw [h.dH]; exact fun z => nomatch z
theorem Hs.tne {G : Gt} {aD : Addr} {F H : Hp} {δ : Dice} (h : Hs G aD F H δ) {P : Addr} (hP : P ∈ G.tabs) : H P ≠ none := by
  obtain ⟨ps, e, _, _⟩ := h.tH P hP
  rw [e]; exact fun z => nomatch z
theorem Hs.dt {G : Gt} {aD : Addr} {F H : Hp} {δ : Dice} (h : Hs G aD F H δ) : aD ∉ G.tabs := fun z => by
  obtain ⟨ps, e, _, _⟩ := h.tH aD z
  rw [h.dH] at e; cases e
theorem Hs.fne {G : Gt} {aD : Addr} {F H : Hp} {δ : Dice} (h : Hs G aD F H δ) {p : Addr} (n : H p = none) : F p = none := by
  cases q : F p with
  | none => rfl
  | some o => rw [h.sub p o q] at n; cases n
theorem nc_none {H : Hp} {p : Addr} (n : H p = none) : ∀ c q, H p ≠ some (LamX.CodeO c q) := fun c q z => by rw [n] at z; cases z
theorem nc_list {H : Hp} {p : Addr} {xs : List V} (n : H p = some (.lst xs)) : ∀ c q, H p ≠ some (LamX.CodeO c q) := fun c q z => codeO_list xs (Option.some.inj (z.symm.trans n))
/-- a new frozen object -/
theorem Hs.laid {G : Gt} {aD : Addr} {F H : Hp} {δ : Dice} {p : Addr} {o : HO} (h : Hs G aD F H δ) (n : H p = none) : Hs G aD (upd F p o) (upd H p o) δ := by
  have np : p ≠ aD := fun z => h.dne (by rw [← z]; exact n)
  have nt : ∀ P ∈ G.tabs, P ≠ p := fun P hP z => h.tne hP (by rw [z]; exact n)
  refine ⟨fun a u q => ?_, by rw [upd_ne np.symm]; exact h.dF, by rw [upd_ne np.symm]; exact h.dH, fun P hP => by rw [upd_ne (nt P hP)]; exact h.tF P hP, fun P hP => by
    obtain ⟨ps, e1, e2, e3⟩ := h.tH P hP
    exact ⟨ps, by rw [upd_ne (nt P hP)]; exact e1, e2, fun z => (e3 z).mono fun c hc => by rw [upd_ne (fun z => by rw [z, n] at hc; cases hc)]; exact hc⟩⟩
  by_cases e : a = p
  · subst e; rw [upd_same] at q ⊢; exact q
  · rw [upd_ne e] at q ⊢; exact h.sub a u q
theorem Step.laid {G : Gt} {aD : Addr} {F H : Hp} {p : Addr} {o : HO} (f : F p = none) (n : H p = none) : Step G aD F H (upd F p o) (upd H p o) := by
  have ne : ∀ a, H a ≠ none → a ≠ p := fun a h z => h (by rw [z]; exact n)
  refine ⟨fun a u q => ?_, fun a u q _ _ f nt => by rw [upd_ne (ne a (by rw [q]; exact fun z => nomatch z))]; exact f, fun a u q _ _ => by rw [upd_ne (ne a (by rw [q]; exact fun z => nomatch z))]; exact q, fun a h => by rw [upd_ne (ne a h)]; exact h⟩
  rw [upd_ne (fun z => by rw [z, f] at q; cases q)]; exact q
/-- a new object that is the frame's own -/
theorem Hs.own {G : Gt} {aD : Addr} {F H : Hp} {δ : Dice} {p : Addr} {o : HO} (h : Hs G aD F H δ) (f : F p = none) (np : p ≠ aD) (nt : p ∉ G.tabs) (nc : ∀ c q, H p ≠ some (LamX.CodeO c q)) : Hs G aD F (upd H p o) δ := by
  refine ⟨fun a u q => ?_, h.dF, by rw [upd_ne np.symm]; exact h.dH, h.tF, fun P hP => ?_⟩
  rotate_left
  · obtain ⟨ps, e1, e2, e3⟩ := h.tH P hP
    exact ⟨ps, by rw [upd_ne (fun z => nt (by rw [← z]; exact hP))]; exact e1, e2, fun z => (e3 z).mono fun c hc => by rw [upd_ne (fun z => nc c _ (by rw [← z]; exact hc))]; exact hc⟩
  rw [upd_ne (fun z => by rw [z, f] at q; cases q)]; exact h.sub a u q
theorem Step.own {G : Gt} {aD : Addr} {F H F' H' : Hp} {p : Addr} {o : HO} (s : Step G aD F H F' H') (n : H p = none) : Step G aD F H F' (upd H' p o) := by
  have ne : ∀ a, H a ≠ none → a ≠ p := fun a h z => h (by rw [z]; exact n)
  exact ⟨s.ex, s.new, fun a u q n1 n2 => by rw [upd_ne (ne a (by rw [q]; exact fun z => nomatch z))]; exact s.keep a u q n1 n2, fun a h => by rw [upd_ne (ne a h)]; exact s.dom a h⟩
/-- an own list becomes frozen -/
theorem Hs.freeze {G : Gt} {aD : Addr} {F H : Hp} {δ : Dice} {p : Addr} {o : HO} (h : Hs G aD F H δ) (e : H p = some o) (np : p ≠ aD) (nt : p ∉ G.tabs) : Hs G aD (upd F p o) H δ := by
  refine ⟨fun a u q => ?_, by rw [upd_ne np.symm]; exact h.dF, h.dH, fun P hP => by rw [upd_ne (fun z => nt (by rw [← z]; exact hP))]; exact h.tF P hP, h.tH⟩
  by_cases z : a = p
  · subst z; rw [upd_same] at q; rw [e, q]
  · rw [upd_ne z] at q; exact h.sub a u q
theorem Step.freeze {G : Gt} {aD : Addr} {F H F' H' : Hp} {p : Addr} {o : HO} (s : Step G aD F H F' H') (f : F' p = none) (n : H p = none) : Step G aD F H (upd F' p o) H' := by
  refine ⟨fun a u q => ?_, fun a u q n1 n2 f nt => by rw [upd_ne (fun z => by rw [z, n] at q; cases q)]; exact s.new a u q n1 n2 f nt, s.keep, s.dom⟩
  have q' := s.ex a u q
  rw [upd_ne (fun z => by rw [z, f] at q'; cases q')]; exact q'

/-- the rows of a dict with tuples of ints for keys -/
abbrev KvR (F : Hp) : List (List Int × D) → List (List L2.Key × V) → Prop := Paired fun p q => q.1 = p.1.map Sum.inl ∧ Rp F q.2 p.2
/-- .. the values lists of the frame's own -/
abbrev KvL (H0 F H : Hp) : List (List Int × List D) → List (List L2.Key × V) → Prop := Paired fun p q => q.1 = p.1.map Sum.inl ∧ ∃ b vs, q.2 = .ref b ∧ H b = some (.lst vs) ∧ F b = none ∧ H0 b = none ∧ RpA F vs p.2
theorem KvR.mono {F F' : Hp} (e : Ext F F') {kvs : List (List Int × D)} {ws : List (List L2.Key × V)} (r : KvR F kvs ws) : KvR F' kvs ws := Paired.mapP r fun _ _ z => ⟨z.1, Rp.mono e z.2⟩
/-- what a slot's value is -/
def SlotOk (C : Ct) (F H : Hp) (v : V) : SV → Prop
  | .v d => Rp F v d
  | .own ds => ∃ a vs, v = .ref a ∧ H a = some (.lst vs) ∧ F a = none ∧ C.H0 a = none ∧ RpA F vs ds
  | .dice => v = .ref C.aD
  | .dct ks => ∃ a, v = .ref a ∧ H a = some (.dK (ks.map fun k => (Sum.inl k, V.bl true))) ∧ F a = none ∧ C.H0 a = none
  | .dT kvs => ∃ a ws, v = .ref a ∧ H a = some (.dT ws) ∧ F a = none ∧ C.H0 a = none ∧ KvR F kvs ws
  | .dL kvs => ∃ a ws, v = .ref a ∧ H a = some (.dT ws) ∧ F a = none ∧ C.H0 a = none ∧ KvL C.H0 F H kvs ws ∧ (ws.map (·.2)).Nodup
structure Rel (C : Ct) (σ : L2.St) (ρ : En) (F H : Hp) (δ : Dice) : Prop where
  hs : Hs C.G C.aD F H δ
  st : Step C.G C.aD C.F0 C.H0 F H
  h0 : C.H0 C.aD ≠ none ∧ ∀ P ∈ C.G.tabs, C.H0 P ≠ none
  len : σ.length = ρ.length
  sl : ∀ (i : Nat) (sv : SV), ρ[i]? = some (some sv) → ∃ v, σ[i]? = some (some v) ∧ SlotOk C F H v sv
  ap : ∀ (i j : Nat) (ds ds' : List D) (a : Addr), ρ[i]? = some (some (.own ds)) → ρ[j]? = some (some (.own ds')) → σ[i]? = some (some (.ref a)) → σ[j]? = some (some (.ref a)) → i = j
  xl : ∀ (i : Nat) (kvs : List (List Int × List D)), ρ[i]? = some (some (.dL kvs)) → ∀ (j : Nat) (sv : SV), ρ[j]? = some (some sv) → j ≠ i → (∃ d, sv = .v d) ∨ sv = .dice
theorem Rel.no_own {C : Ct} {σ : L2.St} {ρ : En} {F H : Hp} {δ : Dice} (R : Rel C σ ρ F H δ) {i j : Nat} {ds : List D} {kvs : List (List Int × List D)} (h : ρ[i]? = some (some (.own ds))) (h2 : ρ[j]? = some (some (.dL kvs))) : False := by
  by_cases e : i = j
  · subst e; rw [h] at h2; cases h2
  · rcases R.xl j kvs h2 i _ h e with ⟨d, z⟩ | z <;> cases z
theorem Rel.no_dct {C : Ct} {σ : L2.St} {ρ : En} {F H : Hp} {δ : Dice} (R : Rel C σ ρ F H δ) {i j : Nat} {ds : List Int} {kvs : List (List Int × List D)} (h : ρ[i]? = some (some (.dct ds))) (h2 : ρ[j]? = some (some (.dL kvs))) : False := by
  by_cases e : i = j
  · subst e; rw [h] at h2; cases h2
  · rcases R.xl j kvs h2 i _ h e with ⟨d, z⟩ | z <;> cases z
theorem Rel.no_dT {C : Ct} {σ : L2.St} {ρ : En} {F H : Hp} {δ : Dice} (R : Rel C σ ρ F H δ) {i j : Nat} {ds : List (List Int × D)} {kvs : List (List Int × List D)} (h : ρ[i]? = some (some (.dT ds))) (h2 : ρ[j]? = some (some (.dL kvs))) : False := by
  by_cases e : i = j
  · subst e; rw [h] at h2; cases h2
  · rcases R.xl j kvs h2 i _ h e with ⟨d, z⟩ | z <;> cases z
theorem KvL.step {C : Ct} {F H F' H' : Hp} (s : Step C.G C.aD F H F' H') (h0 : C.H0 C.aD ≠ none ∧ ∀ P ∈ C.G.tabs, C.H0 P ≠ none) {kvs : List (List Int × List D)} {ws : List (List L2.Key × V)} (r : KvL C.H0 F H kvs ws) : KvL C.H0 F' H' kvs ws :=
  Paired.mapP r fun _ _ ⟨e, b, vs, e2, h1, h2, h3, h4⟩ => by
    have n1 : b ≠ C.aD := fun z => h0.1 (by rw [← z]; exact h3)
    have n2 : b ∉ C.G.tabs := fun z => h0.2 b z h3
    exact ⟨e, b, vs, e2, s.keep b _ h1 n1 n2, s.new b _ h1 n1 n2 h2 (fun xs z => nomatch z), h3, RpA.mono s.ex h4⟩
/-- an expression has been reckoned -/
theorem Rel.step {C : Ct} {σ : L2.St} {ρ : En} {F H F' H' : Hp} {δ δ' : Dice} (R : Rel C σ ρ F H δ) (hs : Hs C.G C.aD F' H' δ') (s : Step C.G C.aD F H F' H') : Rel C σ ρ F' H' δ' := by
  refine ⟨hs, R.st.trans s, R.h0, R.len, fun i sv e => ?_, R.ap, R.xl⟩
  obtain ⟨v, e1, ok⟩ := R.sl i sv e
  refine ⟨v, e1, ?_⟩
  cases sv with
  | v d => exact Rp.mono s.ex ok
  | dice => exact ok
  | own ds =>
    obtain ⟨a, vs, rfl, h1, h2, h3, h4⟩ := ok
    have n1 : a ≠ C.aD := fun z => R.h0.1 (by rw [← z]; exact h3)
    have n2 : a ∉ C.G.tabs := fun z => R.h0.2 a z h3
    exact ⟨a, vs, rfl, s.keep a _ h1 n1 n2, s.new a _ h1 n1 n2 h2 (fun xs z => nomatch z), h3, RpA.mono s.ex h4⟩
  | dct ks =>
    obtain ⟨a, rfl, h1, h2, h3⟩ := ok
    have n1 : a ≠ C.aD := fun z => R.h0.1 (by rw [← z]; exact h3)
    have n2 : a ∉ C.G.tabs := fun z => R.h0.2 a z h3
    exact ⟨a, rfl, s.keep a _ h1 n1 n2, s.new a _ h1 n1 n2 h2 (fun xs z => nomatch z), h3⟩
  | dT kvs =>
    obtain ⟨a, ws, rfl, h1, h2, h3, h4⟩ := ok
    have n1 : a ≠ C.aD := fun z => R.h0.1 (by rw [← z]; exact h3)
    have n2 : a ∉ C.G.tabs := fun z => R.h0.2 a z h3
    exact ⟨a, ws, rfl, s.keep a _ h1 n1 n2, s.new a _ h1 n1 n2 h2 (fun xs z => nomatch z), h3, h4.mono s.ex⟩
  | dL kvs =>
    obtain ⟨a, ws, rfl, h1, h2, h3, h4, h5⟩ := ok
    have n1 : a ≠ C.aD := fun z => R.h0.1 (by rw [← z]; exact h3)
    have n2 : a ∉ C.G.tabs := fun z => R.h0.2 a z h3
    exact ⟨a, ws, rfl, s.keep a _ h1 n1 n2, s.new a _ h1 n1 n2 h2 (fun xs z => nomatch z), h3, h4.step s R.h0, h5⟩
theorem Rel.own {C : Ct} {σ : L2.St} {ρ : En} {F H : Hp} {δ : Dice} (R : Rel C σ ρ F H δ) {i : Nat} {ds : List D} (e : getO ρ i = some ds) :
    ∃ a vs, σ[i]? = some (some (.ref a)) ∧ H a = some (.lst vs) ∧ F a = none ∧ C.H0 a = none ∧ RpA F vs ds ∧ a ≠ C.aD ∧ a ∉ C.G.tabs ∧ ρ[i]? = some (some (.own ds)) := by
  unfold getO at e
  split at e
  · rename_i z hz
    cases e
    obtain ⟨v, e1, a, vs, rfl, h1, h2, h3, h4⟩ := R.sl i _ hz
    exact ⟨a, vs, e1, h1, h2, h3, h4, fun z => R.h0.1 (by rw [← z]; exact h3), fun z => R.h0.2 a z h3, hz⟩
  · cases e
theorem Rel.var {C : Ct} {σ : L2.St} {ρ : En} {F H : Hp} {δ : Dice} (R : Rel C σ ρ F H δ) {i : Nat} {d : D} (e : getD ρ i = some d) : ∃ v, σ[i]? = some (some v) ∧ Rp F v d := by
  unfold getD at e
  split at e
  · rename_i z hz
    cases e
    exact R.sl i _ hz
  · cases e
/-- fewer slots are told -/
theorem Rel.weak {C : Ct} {σ : L2.St} {ρ ρ' : En} {F H : Hp} {δ : Dice} (R : Rel C σ ρ F H δ) (hl : ρ'.length = ρ.length) (h : ∀ (i : Nat) sv, ρ'[i]? = some (some sv) → ρ[i]? = some (some sv)) : Rel C σ ρ' F H δ :=
  ⟨R.hs, R.st, R.h0, R.len.trans hl.symm, fun i sv e => R.sl i sv (h i sv e), fun i j ds ds' a e1 e2 => R.ap i j ds ds' a (h i _ e1) (h j _ e2), fun i kvs e j sv ej hj => R.xl i kvs (h i _ e) j sv (h j _ ej) hj⟩
theorem clr_length (ρ : En) : ∀ vs : List Nat, (clr ρ vs).length = ρ.length
  | [] => rfl
  | v :: vs => by unfold clr; rw [List.length_set, clr_length ρ vs]
theorem clr_some {ρ : En} {i : Nat} {x : SV} : ∀ {vs : List Nat}, (clr ρ vs)[i]? = some (some x) → ρ[i]? = some (some x) ∧ i ∉ vs
  | [], h => ⟨h, by simp⟩
  | v :: vs, h => by
    unfold clr at h
    by_cases hi : v = i
    · subst hi
      by_cases hv : v < (clr ρ vs).length
      · rw [List.getElem?_set_self hv] at h; cases h
      · rw [List.getElem?_eq_none (by simpa using hv)] at h; cases h
    · rw [List.getElem?_set_ne hi] at h
      obtain ⟨h1, h2⟩ := clr_some h
      exact ⟨h1, by simp only [List.mem_cons, not_or]; exact ⟨fun e => hi e.symm, h2⟩⟩
theorem Rel.clr {C : Ct} {σ : L2.St} {ρ : En} {F H : Hp} {δ : Dice} (R : Rel C σ ρ F H δ) (vs : List Nat) : Rel C σ (clr ρ vs) F H δ := R.weak (clr_length ρ vs) fun _ _ e => (clr_some e).1
theorem wipe_clr {C : Ct} {σ : L2.St} {ρ : En} {F H : Hp} {δ : Dice} (R : Rel C σ ρ F H δ) (vs : List Nat) : Rel C (wipe σ vs) (Lay.clr ρ vs) F H δ := by
  refine ⟨R.hs, R.st, R.h0, by rw [wipe_length, clr_length]; exact R.len, fun i sv e => ?_, fun i j ds ds' a e1 e2 e3 e4 => R.ap i j ds ds' a (clr_some e1).1 (clr_some e2).1 (wipe_some e3).1 (wipe_some e4).1, fun i kvs e j sv ej hj => R.xl i kvs (clr_some e).1 j sv (clr_some ej).1 hj⟩
  obtain ⟨e1, hi⟩ := clr_some e
  obtain ⟨v, e2, ok⟩ := R.sl i sv e1
  exact ⟨v, by rw [wipe_out hi]; exact e2, ok⟩
/-- a slot gets data -/
theorem Rel.setV {C : Ct} {σ : L2.St} {ρ : En} {F H : Hp} {δ : Dice} (R : Rel C σ ρ F H δ) {i : Nat} {v : V} {d : D} (r : Rp F v d) : Rel C (σ.set i (some v)) (setV ρ i d) F H δ := by
  have ne : ∀ j ds, (Lay.setV ρ i d)[j]? = some (some (.own ds)) → j ≠ i ∧ ρ[j]? = some (some (.own ds)) := fun j ds e => by
    unfold Lay.setV at e
    by_cases hj : i = j
    · subst hj
      by_cases hl : i < ρ.length
      · rw [List.getElem?_set_self hl] at e; cases e
      · rw [List.getElem?_eq_none (by simpa using hl)] at e; cases e
    · rw [List.getElem?_set_ne hj] at e
      exact ⟨fun z => hj z.symm, e⟩
  have ng : ∀ j sv, (Lay.setV ρ i d)[j]? = some (some sv) → sv = .v d ∨ (j ≠ i ∧ ρ[j]? = some (some sv)) := fun j sv e => by
    unfold Lay.setV at e
    by_cases hj : i = j
    · subst hj
      by_cases hl : i < ρ.length
      · rw [List.getElem?_set_self hl] at e; cases e; exact .inl rfl
      · rw [List.getElem?_eq_none (by simpa using hl)] at e; cases e
    · rw [List.getElem?_set_ne hj] at e
      exact .inr ⟨fun z => hj z.symm, e⟩
  refine ⟨R.hs, R.st, R.h0, by unfold Lay.setV; rw [List.length_set, List.length_set]; exact R.len, fun j sv e => ?_, fun j k ds ds' a e1 e2 e3 e4 => ?_, fun j kvs e k sv ek hk => by
    rcases ng j _ e with z | ⟨_, e⟩
    · cases z
    · rcases ng k _ ek with z | ⟨_, ek⟩
      · exact .inl ⟨_, z⟩
      · exact R.xl j kvs e k sv ek hk⟩
  · unfold Lay.setV at e
    by_cases hj : i = j
    · subst hj
      by_cases hl : i < ρ.length
      · rw [List.getElem?_set_self hl] at e
        cases e
        exact ⟨v, by rw [List.getElem?_set_self (by rw [R.len]; exact hl)], r⟩
      · rw [List.getElem?_eq_none (by simpa using hl)] at e; cases e
    · rw [List.getElem?_set_ne hj] at e
      obtain ⟨u, e1, ok⟩ := R.sl j sv e
      exact ⟨u, by rw [List.getElem?_set_ne hj]; exact e1, ok⟩
  · obtain ⟨n1, q1⟩ := ne j ds e1
    obtain ⟨n2, q2⟩ := ne k ds' e2
    rw [List.getElem?_set_ne n1.symm] at e3
    rw [List.getElem?_set_ne n2.symm] at e4
    exact R.ap j k ds ds' a q1 q2 e3 e4
/-- a slot gets an own list: at p, new since the entry, held by no other slot -/
theorem Rel.setO {C : Ct} {σ : L2.St} {ρ : En} {F H : Hp} {δ : Dice} (R : Rel C σ ρ F H δ) {i : Nat} {p : Addr} {vs : List V} {ds : List D} (hp : H p = some (.lst vs)) (f : F p = none) (n0 : C.H0 p = none) (r : RpA F vs ds)
    (hn : ∀ (j : Nat) (es : List D), j ≠ i → ρ[j]? = some (some (.own es)) → σ[j]? ≠ some (some (.ref p))) (hL : noL ρ = true) : Rel C (σ.set i (some (.ref p))) (setO ρ i ds) F H δ := by
  have at_ : ∀ {j : Nat} {sv : SV}, (Lay.setO ρ i ds)[j]? = some (some sv) → (j = i ∧ i < ρ.length ∧ sv = .own ds) ∨ (j ≠ i ∧ ρ[j]? = some (some sv)) := fun {j sv} e => by
    unfold Lay.setO at e
    by_cases hj : i = j
    · subst hj
      by_cases hl : i < ρ.length
      · rw [List.getElem?_set_self hl] at e; cases e; exact .inl ⟨rfl, hl, rfl⟩
      · rw [List.getElem?_eq_none (by simpa using hl)] at e; cases e
    · rw [List.getElem?_set_ne hj] at e
      exact .inr ⟨fun z => hj z.symm, e⟩
  refine ⟨R.hs, R.st, R.h0, by unfold Lay.setO; rw [List.length_set, List.length_set]; exact R.len, fun j sv e => ?_, fun j k es es' a e1 e2 e3 e4 => ?_, fun j kvs e => by
    rcases at_ e with ⟨_, _, z⟩ | ⟨_, e⟩
    · cases z
    · exact absurd e (noL_at hL)⟩
  · rcases at_ e with ⟨rfl, hl, rfl⟩ | ⟨hj, e⟩
    · exact ⟨.ref p, by rw [List.getElem?_set_self (by rw [R.len]; exact hl)], p, vs, rfl, hp, f, n0, r⟩
    · obtain ⟨u, e1, ok⟩ := R.sl j sv e
      exact ⟨u, by rw [List.getElem?_set_ne hj.symm]; exact e1, ok⟩
  · rcases at_ e1 with ⟨rfl, hl, _⟩ | ⟨n1, q1⟩
    · rcases at_ e2 with ⟨rfl, _, _⟩ | ⟨n2, q2⟩
      · rfl
      · rw [List.getElem?_set_self (by rw [R.len]; exact hl)] at e3
        cases e3
        rw [List.getElem?_set_ne n2.symm] at e4
        exact absurd e4 (hn k es' n2 q2)
    · rcases at_ e2 with ⟨rfl, hl, _⟩ | ⟨n2, q2⟩
      · rw [List.getElem?_set_self (by rw [R.len]; exact hl)] at e4
        cases e4
        rw [List.getElem?_set_ne n1.symm] at e3
        exact absurd e3 (hn j es n1 q1)
      · rw [List.getElem?_set_ne n1.symm] at e3
        rw [List.getElem?_set_ne n2.symm] at e4
        exact R.ap j k es es' a q1 q2 e3 e4
/-- the own list at i is frozen -/
theorem Rel.frz {C : Ct} {σ : L2.St} {ρ : En} {F H : Hp} {δ : Dice} (R : Rel C σ ρ F H δ) (i : Nat) : ∃ F', Ext F F' ∧ Rel C σ (frz i ρ) F' H δ := by
  unfold Lay.frz
  split
  · rename_i ds hz
    obtain ⟨v, e1, a, vs, rfl, h1, h2, h3, h4⟩ := R.sl i _ hz
    have n1 : a ≠ C.aD := fun z => R.h0.1 (by rw [← z]; exact h3)
    have n2 : a ∉ C.G.tabs := fun z => R.h0.2 a z h3
    have ex : Ext F (upd F a (.lst vs)) := fun b u q => by rw [upd_ne (fun z => by rw [z, h2] at q; cases q)]; exact q
    have hl : i < ρ.length := (List.getElem?_eq_some_iff.mp hz).1
    refine ⟨_, ex, R.hs.freeze h1 n1 n2, R.st.freeze h2 h3, R.h0, by rw [List.length_set]; exact R.len, fun j sv e => ?_, fun j k es es' b q1 q2 => ?_, fun j kvs e => by
      by_cases hj : i = j
      · subst hj; rw [List.getElem?_set_self hl] at e; cases e
      · rw [List.getElem?_set_ne hj] at e; exact (R.no_own hz e).elim⟩
    · by_cases hj : i = j
      · subst hj
        rw [List.getElem?_set_self hl] at e
        cases e
        exact ⟨_, e1, .lst upd_same (RpA.mono ex h4)⟩
      · rw [List.getElem?_set_ne hj] at e
        obtain ⟨u, e2, ok⟩ := R.sl j sv e
        refine ⟨u, e2, ?_⟩
        cases sv with
        | v d => exact Rp.mono ex ok
        | dice => exact ok
        | own es =>
          obtain ⟨b, ws, rfl, g1, g2, g3, g4⟩ := ok
          have nb : b ≠ a := fun z => hj (R.ap i j ds es a hz e e1 (by rw [e2, z]))
          exact ⟨b, ws, rfl, g1, by rw [upd_ne nb]; exact g2, g3, RpA.mono ex g4⟩
        | dct ks =>
          obtain ⟨b, rfl, g1, g2, g3⟩ := ok
          have nb : b ≠ a := fun z => by rw [z, h1] at g1; cases g1
          exact ⟨b, rfl, g1, by rw [upd_ne nb]; exact g2, g3⟩
        | dT kvs =>
          obtain ⟨b, ws, rfl, g1, g2, g3, g4⟩ := ok
          have nb : b ≠ a := fun z => by rw [z, h1] at g1; cases g1
          exact ⟨b, ws, rfl, g1, by rw [upd_ne nb]; exact g2, g3, g4.mono ex⟩
        | dL kvs => exact (R.no_own hz e).elim
    · have ne : ∀ (j : Nat) (es : List D), (ρ.set i (some (SV.v (.list ds))))[j]? = some (some (SV.own es)) → ρ[j]? = some (some (SV.own es)) := fun j es e => by
        by_cases hj : i = j
        · subst hj; rw [List.getElem?_set_self hl] at e; cases e
        · rw [List.getElem?_set_ne hj] at e; exact e
      exact R.ap j k es es' b (ne j es q1) (ne k es' q2)
  · exact ⟨F, Ext.refl F, R⟩

/-! ### what is wanted -/
/-- an error leaves the def -/
def ErrP (C : Ct) (nm : Str) (δ : Dice) : Prop := ∀ F' H' dd, Hs C.G C.aD F' H' δ → Step C.G C.aD C.F0 C.H0 F' H' → H' dd = some (.xd [(("name" : Str), .str nm)]) → C.E (.ref C.G.CB) (some dd) H'
/-- a reckoned value; F, H: the heaps ahead of it -/
def ValP (C : Ct) (F H : Hp) (d : D) (δ : Dice) (Q : VK) : Prop := ∀ v F' H', Hs C.G C.aD F' H' δ → Step C.G C.aD F H F' H' → Rp F' v d → Q v H'
def PostE (C : Ct) (F H : Hp) (Q : VK) : Except Str D × Dice → Prop
  | (.ok d, δ) => ValP C F H d δ Q
  | (.error nm, δ) => ErrP C nm δ
def EvE (C : Ct) (te : TE) (ex : EX) : Prop := ∀ σ ρ F H δ Q r, Rel C σ ρ F H δ → ex ρ δ = some r → PostE C F H Q r → te σ H Q
def PostB (C : Ct) (F H : Hp) (Q : Bool → Hp → Prop) : Except Str Bool × Dice → Prop
  | (.ok b, δ) => ∀ F' H', Hs C.G C.aD F' H' δ → Step C.G C.aD F H F' H' → Q b H'
  | (.error nm, δ) => ErrP C nm δ
def EvT (C : Ct) (tt : TT) (ex : EB) : Prop := ∀ σ ρ F H δ Q r, Rel C σ ρ F H δ → ex ρ δ = some r → PostB C F H Q r → tt σ H Q
def PostL (C : Ct) (F H : Hp) (Q : List V → Hp → Prop) : Except Str (List D) × Dice → Prop
  | (.ok ds, δ) => ∀ vs F' H', Hs C.G C.aD F' H' δ → Step C.G C.aD F H F' H' → RpA F' vs ds → Q vs H'
  | (.error nm, δ) => ErrP C nm δ
def EvA (C : Ct) (ta : TA) (ex : EL) : Prop := ∀ σ ρ F H δ Q r, Rel C σ ρ F H δ → ex ρ δ = some r → PostL C F H Q r → ta σ H Q
/-- the ends of a statement that began at F -/
def PostS (C : Ct) (F : Hp) (D' : Ends) : Except Str Fl × Dice → Prop
  | (.ok (.nx ρ), δ) => ∀ σ F' H', Rel C σ ρ F' H' δ → Ext F F' → D'.nx σ H'
  | (.ok (.bk ρ), δ) => ∀ σ F' H', Rel C σ ρ F' H' δ → Ext F F' → D'.bk σ H'
  | (.ok (.ct ρ), δ) => ∀ σ F' H', Rel C σ ρ F' H' δ → Ext F F' → D'.ct σ H'
  | (.ok (.rt d), δ) => ∀ v F' H', Hs C.G C.aD F' H' δ → Step C.G C.aD C.F0 C.H0 F' H' → Rp F' v d → D'.rt v H'
  | (.error nm, δ) => ErrP C nm δ
def EvS (C : Ct) (t : TS) (f : ST) : Prop := ∀ D' σ ρ F H δ r, Rel C σ ρ F H δ → f ρ δ = some r → PostS C F D' r → t D' σ H
/-- a target -/
def EvG (C : Ct) (g : TG) (tg : Tg) : Prop := ∀ v d σ ρ ρ' F H δ (Q : L2.St → Hp → Prop), Rel C σ ρ F H δ → Rp F v d → bindT tg ρ d = some ρ' →
  (∀ σ', Rel C σ' ρ' F H δ → (∀ i, i ∉ slotsT tg → σ'[i]? = σ[i]?) → Q σ' H) → g v σ H Q
def EvGs (C : Ct) (g : TGs) (ts : List Tg) : Prop := ∀ vs ds σ ρ ρ' F H δ (Q : L2.St → Hp → Prop), Rel C σ ρ F H δ → RpA F vs ds → bindTs ts ρ ds = some ρ' →
  (∀ σ', Rel C σ' ρ' F H δ → (∀ i, i ∉ slotsTs ts → σ'[i]? = σ[i]?) → Q σ' H) → g vs σ H Q
/-- an iterator that yields these data, one by one, wherever F1 is kept -/
def Yields (C : Ct) (J : It) (ds : List D) (F1 : Hp) : Prop := ∀ i F H δ, Ext F1 F → Hs C.G C.aD F H δ →
  (i < ds.length → J.go i H ∧ ∀ x H', J.yld i H x H' → ∃ d F', ds[i]? = some d ∧ Hs C.G C.aD F' H' δ ∧ Step C.G C.aD F H F' H' ∧ Rp F' x d) ∧ (ds.length ≤ i → J.stop i H)
def PostI (C : Ct) (F H : Hp) (R : It → Hp → Prop) : Except Str (List D) × Dice → Prop
  | (.ok ds, δ) => ∀ J F' H', Hs C.G C.aD F' H' δ → Step C.G C.aD F H F' H' → Yields C J ds F' → R J H'
  | (.error nm, δ) => ErrP C nm δ
def EvI (C : Ct) (wi : TI) (it : EL) : Prop := ∀ σ ρ F H δ R r, Rel C σ ρ F H δ → it ρ δ = some r → PostI C F H R r → wi σ H R

section
variable {C : Ct}
theorem ErrP.use {nm : Str} {δ : Dice} {F' H' : Hp} {dd : Addr} (h : ErrP C nm δ) (a : Hs C.G C.aD F' H' δ) (b : Step C.G C.aD C.F0 C.H0 F' H') (c : H' dd = some (.xd [(("name" : Str), .str nm)])) : C.E (.ref C.G.CB) (some dd) H' := h F' H' dd a b c
/-- one after another -/
theorem EvE.then {te : TE} {ex : EX} {β : Type} {k : D → M β} {σ : L2.St} {ρ : En} {F H : Hp} {δ : Dice} {Q : VK} {r : Except Str β × Dice} (h : EvE C te ex) (R : Rel C σ ρ F H δ) (e : M.bind (ex ρ) k δ = some r)
    (he : ∀ nm δ', r = (.error nm, δ') → ErrP C nm δ') (hk : ∀ d δ1 v F1 H1, k d δ1 = some r → Rel C σ ρ F1 H1 δ1 → Step C.G C.aD F H F1 H1 → Rp F1 v d → Q v H1) : te σ H Q := by
  rcases M.bind_some e with ⟨d, δ1, e1, e2⟩ | ⟨nm, δ1, e1, e2⟩
  · exact h σ ρ F H δ Q _ R e1 fun v F' H' a b c => hk d δ1 v F' H' e2 (R.step a b) b c
  · exact h σ ρ F H δ Q _ R e1 (he nm δ1 e2)
theorem EvT.then {te : TT} {ex : EB} {β : Type} {k : Bool → M β} {σ : L2.St} {ρ : En} {F H : Hp} {δ : Dice} {Q : Bool → Hp → Prop} {r : Except Str β × Dice} (h : EvT C te ex) (R : Rel C σ ρ F H δ) (e : M.bind (ex ρ) k δ = some r)
    (he : ∀ nm δ', r = (.error nm, δ') → ErrP C nm δ') (hk : ∀ d δ1 F1 H1, k d δ1 = some r → Rel C σ ρ F1 H1 δ1 → Step C.G C.aD F H F1 H1 → Q d H1) : te σ H Q := by
  rcases M.bind_some e with ⟨d, δ1, e1, e2⟩ | ⟨nm, δ1, e1, e2⟩
  · exact h σ ρ F H δ Q _ R e1 fun F' H' a b => hk d δ1 F' H' e2 (R.step a b) b
  · exact h σ ρ F H δ Q _ R e1 (he nm δ1 e2)
theorem EvA.then {te : TA} {ex : EL} {β : Type} {k : List D → M β} {σ : L2.St} {ρ : En} {F H : Hp} {δ : Dice} {Q : List V → Hp → Prop} {r : Except Str β × Dice} (h : EvA C te ex) (R : Rel C σ ρ F H δ) (e : M.bind (ex ρ) k δ = some r)
    (he : ∀ nm δ', r = (.error nm, δ') → ErrP C nm δ') (hk : ∀ d δ1 v F1 H1, k d δ1 = some r → Rel C σ ρ F1 H1 δ1 → Step C.G C.aD F H F1 H1 → RpA F1 v d → Q v H1) : te σ H Q := by
  rcases M.bind_some e with ⟨d, δ1, e1, e2⟩ | ⟨nm, δ1, e1, e2⟩
  · exact h σ ρ F H δ Q _ R e1 fun v F' H' a b c => hk d δ1 v F' H' e2 (R.step a b) b c
  · exact h σ ρ F H δ Q _ R e1 (he nm δ1 e2)
theorem EvI.then {te : TI} {ex : EL} {β : Type} {k : List D → M β} {σ : L2.St} {ρ : En} {F H : Hp} {δ : Dice} {Q : It → Hp → Prop} {r : Except Str β × Dice} (h : EvI C te ex) (R : Rel C σ ρ F H δ) (e : M.bind (ex ρ) k δ = some r)
    (he : ∀ nm δ', r = (.error nm, δ') → ErrP C nm δ') (hk : ∀ d δ1 J F1 H1, k d δ1 = some r → Rel C σ ρ F1 H1 δ1 → Step C.G C.aD F H F1 H1 → Yields C J d F1 → Q J H1) : te σ H Q := by
  rcases M.bind_some e with ⟨d, δ1, e1, e2⟩ | ⟨nm, δ1, e1, e2⟩
  · exact h σ ρ F H δ Q _ R e1 fun v F' H' a b c => hk d δ1 v F' H' e2 (R.step a b) b c
  · exact h σ ρ F H δ Q _ R e1 (he nm δ1 e2)
theorem PostE.err {F H : Hp} {Q : VK} {r : Except Str D × Dice} (p : PostE C F H Q r) : ∀ nm δ', r = (.error nm, δ') → ErrP C nm δ' := fun nm δ' e => by subst e; exact p
theorem PostB.err {F H : Hp} {Q : Bool → Hp → Prop} {r : Except Str Bool × Dice} (p : PostB C F H Q r) : ∀ nm δ', r = (.error nm, δ') → ErrP C nm δ' := fun nm δ' e => by subst e; exact p
theorem PostL.err {F H : Hp} {Q : List V → Hp → Prop} {r : Except Str (List D) × Dice} (p : PostL C F H Q r) : ∀ nm δ', r = (.error nm, δ') → ErrP C nm δ' := fun nm δ' e => by subst e; exact p
theorem PostI.err {F H : Hp} {Q : It → Hp → Prop} {r : Except Str (List D) × Dice} (p : PostI C F H Q r) : ∀ nm δ', r = (.error nm, δ') → ErrP C nm δ' := fun nm δ' e => by subst e; exact p
theorem PostS.err {F : Hp} {D' : Ends} {r : Except Str Fl × Dice} (p : PostS C F D' r) : ∀ nm δ', r = (.error nm, δ') → ErrP C nm δ' := fun nm δ' e => by subst e; exact p
theorem PostE.mono {F H F1 H1 : Hp} {Q : VK} {r : Except Str D × Dice} (p : PostE C F H Q r) (s : Step C.G C.aD F H F1 H1) : PostE C F1 H1 Q r := by
  obtain ⟨x, δ⟩ := r
  cases x with
  | ok d => exact fun v F' H' a b c => p v F' H' a (s.trans b) c
  | error nm => exact p
theorem PostB.mono {F H F1 H1 : Hp} {Q : Bool → Hp → Prop} {r : Except Str Bool × Dice} (p : PostB C F H Q r) (s : Step C.G C.aD F H F1 H1) : PostB C F1 H1 Q r := by
  obtain ⟨x, δ⟩ := r
  cases x with
  | ok d => exact fun F' H' a b => p F' H' a (s.trans b)
  | error nm => exact p
theorem PostL.mono {F H F1 H1 : Hp} {Q : List V → Hp → Prop} {r : Except Str (List D) × Dice} (p : PostL C F H Q r) (s : Step C.G C.aD F H F1 H1) : PostL C F1 H1 Q r := by
  obtain ⟨x, δ⟩ := r
  cases x with
  | ok d => exact fun v F' H' a b c => p v F' H' a (s.trans b) c
  | error nm => exact p
theorem PostI.mono {F H F1 H1 : Hp} {Q : It → Hp → Prop} {r : Except Str (List D) × Dice} (p : PostI C F H Q r) (s : Step C.G C.aD F H F1 H1) : PostI C F1 H1 Q r := by
  obtain ⟨x, δ⟩ := r
  cases x with
  | ok d => exact fun v F' H' a b c => p v F' H' a (s.trans b) c
  | error nm => exact p
theorem PostS.mono {F F1 : Hp} {D' : Ends} {r : Except Str Fl × Dice} (p : PostS C F D' r) (s : Ext F F1) : PostS C F1 D' r := by
  obtain ⟨x, δ⟩ := r
  cases x with
  | ok f =>
    cases f with
    | nx ρ => exact fun σ F' H' a b => p σ F' H' a (s.trans b)
    | bk ρ => exact fun σ F' H' a b => p σ F' H' a (s.trans b)
    | ct ρ => exact fun σ F' H' a b => p σ F' H' a (s.trans b)
    | rt d => exact p
  | error nm => exact p
/-- the value at once -/
theorem PostE.val {F H : Hp} {Q : VK} {d : D} {δ : Dice} {v : V} (p : PostE C F H Q (.ok d, δ)) (hs : Hs C.G C.aD F H δ) (r : Rp F v d) : Q v H := p v F H hs Step.refl r
theorem PostE.new {F H : Hp} {Q : VK} {d : D} {δ : Dice} {p : Addr} {o : HO} (q : PostE C F H Q (.ok d, δ)) (hs : Hs C.G C.aD F H δ) (n : H p = none) (r : Rp (upd F p o) (.ref p) d) : Q (.ref p) (upd H p o) :=
  q _ _ _ (hs.laid n) (Step.laid (hs.fne n) n) r
end
end Lay

set_option Elab.async false
set_option linter.all false
set_option maxRecDepth 100000
set_option maxHeartbeats 2000000
/-! Expressions: what the readings give -/
namespace Lay
open PySem PySem.Spec PyProof.Rows L2

section
variable {C : Ct} {ta tb tc td te : TE} {fa fb fc fd fe : EX}
theorem ev_var {i : Nat} : EvE C (tVar i) (eVar i) := fun σ ρ F H δ Q r R e p => by
  obtain ⟨d, e1, rfl⟩ := M.lift_some e
  obtain ⟨v, e2, rp⟩ := R.var e1
  exact ⟨v, e2, p.val R.hs rp⟩
theorem ev_c {v : V} {d : D} (h : ∀ F, Rp F v d) : EvE C (tC v) (eC d) := fun σ ρ F H δ Q r R e p => by
  cases (Option.some.inj e).symm
  exact p.val R.hs (h F)
theorem ev_int {i : Int} : EvE C (tC (.int i)) (eC (.int i)) := ev_c fun _ => .int i
theorem ev_bl {b : Bool} : EvE C (tC (.bl b)) (eC (.bool b)) := ev_c fun _ => .bl b
theorem ev_non : EvE C (tC .non) (eC .none) := ev_c fun _ => .non
theorem ev_str {x : Str} : EvE C (tC (.str x)) (eC (.str x)) := ev_c fun _ => .str x

/-- a one-place operation, a two-place one, a call's, over data -/
def Raw1 (C : Ct) (r : V → Hp → VK → Prop) (op : D → Option D) : Prop := ∀ F H δ x d z Q, Hs C.G C.aD F H δ → Rp F x d → op d = some z → ValP C F H z δ Q → r x H Q
def Raw2 (C : Ct) (r : R2) (op : D → D → Option D) : Prop := ∀ F H δ x y d e z Q, Hs C.G C.aD F H δ → Rp F x d → Rp F y e → op d e = some z → ValP C F H z δ Q → r x y H Q
def RawL (C : Ct) (r : List V → Hp → VK → Prop) (op : List D → Option D) : Prop := ∀ F H δ vs ds z Q, Hs C.G C.aD F H δ → RpA F vs ds → op ds = some z → ValP C F H z δ Q → r vs H Q
theorem ValP.val {F H : Hp} {Q : VK} {d : D} {δ : Dice} {v : V} (p : ValP C F H d δ Q) (hs : Hs C.G C.aD F H δ) (r : Rp F v d) : Q v H := p v F H hs Step.refl r
theorem ValP.new {F H : Hp} {Q : VK} {d : D} {δ : Dice} {p : Addr} {o : HO} (q : ValP C F H d δ Q) (hs : Hs C.G C.aD F H δ) (n : H p = none) (r : Rp (upd F p o) (.ref p) d) : Q (.ref p) (upd H p o) :=
  q _ _ _ (hs.laid n) (Step.laid (hs.fne n) n) r
theorem ValP.list {F H : Hp} {Q : VK} {ds : List D} {vs : List V} {δ : Dice} {p : Addr} (q : ValP C F H (.list ds) δ Q) (hs : Hs C.G C.aD F H δ) (n : H p = none) (r : RpA F vs ds) : Q (.ref p) (upd H p (.lst vs)) :=
  q.new hs n (.lst upd_same (RpA.mono (Step.laid (G := C.G) (aD := C.aD) (hs.fne n) n).ex r))
theorem ValP.tuple {F H : Hp} {Q : VK} {ds : List D} {vs : List V} {δ : Dice} {p : Addr} (q : ValP C F H (.tuple ds) δ Q) (hs : Hs C.G C.aD F H δ) (n : H p = none) (r : RpA F vs ds) : Q (.ref p) (upd H p (.tup vs)) :=
  q.new hs n (.tup upd_same (RpA.mono (Step.laid (G := C.G) (aD := C.aD) (hs.fne n) n).ex r))
theorem ev_un {r : V → Hp → VK → Prop} {op : D → Option D} (h : Raw1 C r op) (ha : EvE C ta fa) : EvE C (tUn r ta) (eUn op fa) := fun σ ρ F H δ Q r R e p =>
  ha.then R e p.err fun d δ1 v F1 H1 e1 R1 s1 rp => by
    obtain ⟨z, e2, rfl⟩ := M.lift_some e1
    exact h F1 H1 δ1 v d z Q R1.hs rp e2 (p.mono s1)
theorem ev_bin {r : R2} {op : D → D → Option D} (h : Raw2 C r op) (ha : EvE C ta fa) (hb : EvE C tb fb) : EvE C (tOp r ta tb) (eBin op fa fb) := fun σ ρ F H δ Q r R e p =>
  ha.then R e p.err fun d δ1 v F1 H1 e1 R1 s1 rp => hb.then R1 e1 p.err fun d2 δ2 v2 F2 H2 e2 R2 s2 rp2 => by
    obtain ⟨z, e3, rfl⟩ := M.lift_some e2
    exact h F2 H2 δ2 v v2 d d2 z Q R2.hs (rp.mono s2.ex) rp2 e3 (p.mono (s1.trans s2))
/-- a comparison whose answer is a truth value -/
def BoolOp (op : D → D → Option D) : Prop := ∀ d e z, op d e = some z → ∃ b, z = .bool b
theorem rp_bool {F : Hp} {v : V} {b : Bool} (h : Rp F v (.bool b)) : v = .bl b := by cases h; rfl
theorem ev_chain {r r' : R2} {op op' : D → D → Option D} (h : Raw2 C r op) (h' : Raw2 C r' op') (ha : EvE C ta fa) (hb : EvE C tb fb) (hc : EvE C tc fc) : EvE C (tChain r r' ta tb tc) (eChain op op' fa fb fc) := fun σ ρ F H δ Q r R e p =>
  ha.then R e p.err fun d δ1 v F1 H1 e1 R1 s1 rp => hb.then R1 e1 p.err fun d2 δ2 v2 F2 H2 e2 R2 s2 rp2 => by
    rcases M.bind_some e2 with ⟨z, δ3, e3, e4⟩ | ⟨nm, δ3, e3, e4⟩
    · obtain ⟨z', e5, e6⟩ := M.lift_some e3
      cases e6
      refine h F2 H2 δ2 v v2 d d2 z _ R2.hs (rp.mono s2.ex) rp2 e5 fun w F3 H3 hs3 s3 rp3 => ?_
      cases z with
      | bool b =>
        refine ⟨b, rp_bool rp3, ?_⟩
        cases b with
        | true =>
          refine iteT ?_
          refine hc.then (R2.step hs3 s3) e4 p.err fun d4 δ4 v4 F4 H4 e7 R4 s4 rp4 => ?_
          obtain ⟨z2, e8, rfl⟩ := M.lift_some e7
          exact h' F4 H4 δ4 v2 v4 d2 d4 z2 Q R4.hs ((rp2.mono s3.ex).mono s4.ex) rp4 e8 (p.mono (((s1.trans s2).trans s3).trans s4))
        | false =>
          refine iteF ?_
          cases (Option.some.inj e4).symm
          exact (p.mono ((s1.trans s2).trans s3)).val hs3 (.bl false)
      | none => cases e4
      | int i => cases e4
      | str i => cases e4
      | list i => cases e4
      | tuple i => cases e4
      | dict i => cases e4
    · obtain ⟨z', e5, e6⟩ := M.lift_some e3
      cases e6

/-! ### tests -/
theorem toB_some {d : D} {δ : Dice} {r : Except Str Bool × Dice} (h : toB d δ = some r) : ∃ b, d = .bool b ∧ r = (.ok b, δ) := by
  cases d <;> first | (cases (Option.some.inj h).symm; exact ⟨_, rfl, rfl⟩) | cases h
theorem PostB.val {F H : Hp} {Q : Bool → Hp → Prop} {b : Bool} {δ : Dice} (p : PostB C F H Q (.ok b, δ)) (hs : Hs C.G C.aD F H δ) : Q b H := p F H hs Step.refl
theorem evt_test (ha : EvE C ta fa) : EvT C (tTest ta) (bOf fa) := fun σ ρ F H δ Q r R e p =>
  ha.then R e p.err fun d δ1 v F1 H1 e1 R1 s1 rp => by
    obtain ⟨b, rfl, rfl⟩ := toB_some e1
    exact ⟨b, rp_bool rp, (p.mono s1).val R1.hs⟩
theorem evt_B (ha : EvE C ta fa) : EvT C (tB ta) (bOf fa) := evt_test ha
variable {tA tB' : TT} {ga gb : EB}
theorem evt_not (ha : EvT C tA ga) : EvT C (tNot tA) (bNot ga) := fun σ ρ F H δ Q r R e p =>
  ha.then R e p.err fun d δ1 F1 H1 e1 R1 s1 => by
    cases (Option.some.inj e1).symm
    exact (p.mono s1).val R1.hs
theorem evt_and (ha : EvT C tA ga) (hb : EvT C tB' gb) : EvT C (tAnd tA tB') (bAnd ga gb) := fun σ ρ F H δ Q r R e p =>
  ha.then R e p.err fun d δ1 F1 H1 e1 R1 s1 => by
    cases d with
    | true => exact iteT (hb σ ρ F1 H1 δ1 Q r R1 e1 (p.mono s1))
    | false =>
      refine iteF ?_
      cases (Option.some.inj e1).symm
      exact (p.mono s1).val R1.hs
theorem evt_or (ha : EvT C tA ga) (hb : EvT C tB' gb) : EvT C (tOr tA tB') (bOr ga gb) := fun σ ρ F H δ Q r R e p =>
  ha.then R e p.err fun d δ1 F1 H1 e1 R1 s1 => by
    cases d with
    | false => exact iteF (hb σ ρ F1 H1 δ1 Q r R1 e1 (p.mono s1))
    | true =>
      refine iteT ?_
      cases (Option.some.inj e1).symm
      exact (p.mono s1).val R1.hs
theorem ev_and (ha : EvE C ta fa) (hb : EvE C tb fb) : EvE C (tAndV ta tb) (eAnd fa fb) := fun σ ρ F H δ Q r R e p =>
  ha.then R e p.err fun d δ1 v F1 H1 e1 R1 s1 rp => by
    cases d with
    | bool b =>
      refine ⟨b, rp_bool rp, ?_⟩
      cases b with
      | true => exact iteT (hb σ ρ F1 H1 δ1 Q r R1 e1 (p.mono s1))
      | false =>
        refine iteF ?_
        cases (Option.some.inj e1).symm
        exact (p.mono s1).val R1.hs (.bl false)
    | none => cases e1
    | int i => cases e1
    | str i => cases e1
    | list i => cases e1
    | tuple i => cases e1
    | dict i => cases e1
theorem ev_or (ha : EvE C ta fa) (hb : EvE C tb fb) : EvE C (tOrV ta tb) (eOr fa fb) := fun σ ρ F H δ Q r R e p =>
  ha.then R e p.err fun d δ1 v F1 H1 e1 R1 s1 rp => by
    cases d with
    | bool b =>
      refine ⟨b, rp_bool rp, ?_⟩
      cases b with
      | false => exact iteF (hb σ ρ F1 H1 δ1 Q r R1 e1 (p.mono s1))
      | true =>
        refine iteT ?_
        cases (Option.some.inj e1).symm
        exact (p.mono s1).val R1.hs (.bl true)
    | none => cases e1
    | int i => cases e1
    | str i => cases e1
    | list i => cases e1
    | tuple i => cases e1
    | dict i => cases e1
theorem ev_not (ha : EvE C ta fa) : EvE C (tNotV ta) (eNot fa) := fun σ ρ F H δ Q r R e p =>
  ha.then R e p.err fun d δ1 v F1 H1 e1 R1 s1 rp => by
    cases d with
    | bool b =>
      cases (Option.some.inj e1).symm
      exact ⟨b, rp_bool rp, (p.mono s1).val R1.hs (.bl _)⟩
    | none => cases e1
    | int i => cases e1
    | str i => cases e1
    | list i => cases e1
    | tuple i => cases e1
    | dict i => cases e1
theorem ev_if (hc : EvT C tA ga) (ha : EvE C ta fa) (hb : EvE C tb fb) : EvE C (tIf tA ta tb) (eIf ga fa fb) := fun σ ρ F H δ Q r R e p =>
  hc.then R e p.err fun d δ1 F1 H1 e1 R1 s1 => by
    cases d with
    | true => exact iteT (ha σ ρ F1 H1 δ1 Q r R1 e1 (p.mono s1))
    | false => exact iteF (hb σ ρ F1 H1 δ1 Q r R1 e1 (p.mono s1))

/-! ### argument lists, displays, calls -/
variable {la : TA} {gl : EL}
theorem eva_nil : EvA C tNil lNil := fun σ ρ F H δ Q r R e p => by
  cases (Option.some.inj e).symm
  exact p [] F H R.hs Step.refl .nil
theorem eva_cons (ha : EvE C ta fa) (hl : EvA C la gl) : EvA C (tCons ta la) (lCons fa gl) := fun σ ρ F H δ Q r R e p =>
  ha.then R e p.err fun d δ1 v F1 H1 e1 R1 s1 rp => hl.then R1 e1 p.err fun ds δ2 vs F2 H2 e2 R2 s2 rp2 => by
    cases (Option.some.inj e2).symm
    exact p _ F2 H2 R2.hs (s1.trans s2) (.cons (rp.mono s2.ex) rp2)
theorem ev_tup (hl : EvA C la gl) : EvE C (tTup la) (eTup gl) := fun σ ρ F H δ Q r R e p =>
  hl.then R e p.err fun ds δ1 vs F1 H1 e1 R1 s1 rp => by
    split at e1
    · rename_i hz
      cases (Option.some.inj e1).symm
      refine ⟨by rw [rp.length]; exact hz, fun q nq => ?_⟩
      exact ValP.tuple (p.mono s1) R1.hs nq rp
    · cases e1
theorem ev_lst (hl : EvA C la gl) : EvE C (tLst la) (eLst gl) := fun σ ρ F H δ Q r R e p =>
  hl.then R e p.err fun ds δ1 vs F1 H1 e1 R1 s1 rp => by
    split at e1
    · rename_i hz
      cases (Option.some.inj e1).symm
      refine ⟨by rw [rp.length]; exact hz, fun q nq => ?_⟩
      exact ValP.list (p.mono s1) R1.hs nq rp
    · cases e1
theorem ev_callB {r : List V → Hp → VK → Prop} {op : List D → Option D} (h : RawL C r op) (hl : EvA C la gl) : EvE C (tCB r la) (eCallB op gl) := fun σ ρ F H δ Q r R e p =>
  hl.then R e p.err fun ds δ1 vs F1 H1 e1 R1 s1 rp => by
    obtain ⟨z, e2, rfl⟩ := M.lift_some e1
    exact h F1 H1 δ1 vs ds z Q R1.hs rp e2 (p.mono s1)

/-- a def's promise by its mirror -/
def spX (G : Gt) (m : List D → M D) : Sp := fun vs H Q E => ∃ aD F δ ds r, Hs G aD F H δ ∧ RpA F vs ds ∧ m ds δ = some r ∧ PostE ⟨G, aD, F, H, E⟩ F H Q r
/-- .. its first argument the dice -/
def spD (G : Gt) (m : List D → M D) : Sp := fun vs H Q E => ∃ aD F δ ws ds r, vs = .ref aD :: ws ∧ Hs G aD F H δ ∧ RpA F ws ds ∧ m ds δ = some r ∧ PostE ⟨G, aD, F, H, E⟩ F H Q r
/-- the callee's post from the caller's -/
theorem PostE.callee {F H F1 H1 : Hp} {Q : VK} {σ : L2.St} {ρ : En} {δ1 : Dice} {r : Except Str D × Dice} (p : PostE C F H Q r) (R1 : Rel C σ ρ F1 H1 δ1) (s1 : Step C.G C.aD F H F1 H1) : PostE ⟨C.G, C.aD, F1, H1, C.E⟩ F1 H1 Q r := by
  obtain ⟨x, δ⟩ := r
  cases x with
  | ok d => exact fun v F' H' a b c => p v F' H' a (s1.trans b) c
  | error nm => exact fun F' H' dd a b c => p F' H' dd a (R1.st.trans b) c
theorem ev_call {m : List D → M D} (hl : EvA C la gl) : EvE C (tCall (spX C.G m) [] C.E la) (eCall m gl) := fun σ ρ F H δ Q r R e p =>
  hl.then R e p.err fun ds δ1 vs F1 H1 e1 R1 s1 rp => ⟨C.aD, F1, δ1, ds, r, R1.hs, by rw [List.append_nil]; exact rp, e1, p.callee R1 s1⟩
theorem ev_callK {m : List D → M D} {gV : List V → List V → List V} {gD : List D → List D → List D} {lk : TA} {gk : EL} (hg : ∀ F vs ds ws es, RpA F vs ds → RpA F ws es → RpA F (gV vs ws) (gD ds es)) (hl : EvA C la gl) (hk : EvA C lk gk) :
    EvE C (tCallK (spX C.G m) gV C.E la lk) (fun ρ => M.bind (gl ρ) fun ds => M.bind (gk ρ) fun es => m (gD ds es)) := fun σ ρ F H δ Q r R e p =>
  hl.then R e p.err fun ds δ1 vs F1 H1 e1 R1 s1 rp => hk.then R1 e1 p.err fun es δ2 ws F2 H2 e2 R2 s2 rp2 =>
    ⟨C.aD, F2, δ2, _, r, R2.hs, hg F2 vs ds ws es (RpA.mono s2.ex rp) rp2, e2, p.callee R2 (s1.trans s2)⟩
theorem Rel.dice {C : Ct} {σ : L2.St} {ρ : En} {F H : Hp} {δ : Dice} (R : Rel C σ ρ F H δ) {i : Nat} (e : dAt ρ i = true) : σ[i]? = some (some (.ref C.aD)) := by
  unfold dAt at e
  split at e
  · rename_i hi
    obtain ⟨v, e0, ok⟩ := R.sl i _ hi
    have ok : v = .ref C.aD := ok
    rw [e0, ok]
  · cases e
theorem ev_callD {m : List D → M D} {i : Nat} (hl : EvA C la gl) : EvE C (tCall (spD C.G m) [] C.E (tCons (tVar i) la)) (eCallD i m gl) := fun σ ρ F H δ Q r R e p => by
  unfold eCallD at e
  by_cases hi : dAt ρ i = true
  · rw [if_pos hi] at e
    refine ⟨.ref C.aD, R.dice hi, ?_⟩
    refine hl.then R e p.err fun ds δ1 vs F1 H1 e1 R1 s1 rp => ?_
    exact ⟨C.aD, F1, δ1, vs, ds, r, by rw [List.append_nil], R1.hs, rp, e1, p.callee R1 s1⟩
  · rw [if_neg hi] at e; cases e
/-- len(x), x the frame's own list -/
theorem ev_ownLen {K : PySem.W.Frag} {i : Nat} : EvE C (tCB (fun xs H Q => ∃ p ys, xs = [V.ref p] ∧ (SqL K H p ys ∨ SqT K H p ys) ∧ Q (V.int ys.length) H) (tCons (tVar i) tNil)) (eOwnLen i) := fun σ ρ F H δ Q r R e p => by
  obtain ⟨d, e1, rfl⟩ := M.lift_some e
  cases q : getO ρ i with
  | none => rw [q] at e1; cases e1
  | some ds =>
    rw [q] at e1
    cases e1
    obtain ⟨a, vs, h1, h2, h3, h4, h5, h6, h7, h8⟩ := R.own q
    refine ⟨_, h1, a, vs, rfl, .inl (SqL.of h2), ?_⟩
    rw [h5.length]
    exact p.val R.hs (.int _)
theorem atI_rp {F : Hp} {vs : List V} {ds : List D} (r : RpA F vs ds) {k : Int} {d : D} (h : atI ds k = some d) : ∃ v, atI vs k = some v ∧ Rp F v d := by
  unfold atI at h ⊢
  rw [r.length]
  cases q : ixN ds.length k with
  | none => rw [q] at h; cases h
  | some j =>
    rw [q] at h
    exact r.get h
theorem ev_ownIx {K : PySem.W.Frag} {i : Nat} (hb : EvE C tb fb) : EvE C (tOp (rIxL K) (tVar i) tb) (eOwnIx i fb) := fun σ ρ F H δ Q r R e p => by
  unfold eOwnIx at e
  cases q : getO ρ i with
  | none => rw [q] at e; cases e
  | some ds =>
    rw [q] at e
    obtain ⟨a, vs, h1, h2, h3, h4, h5, h6, h7, h8⟩ := R.own q
    refine ⟨_, h1, ?_⟩
    refine hb.then R e p.err fun d δ1 v F1 H1 e1 R1 s1 rp => ?_
    obtain ⟨z, e2, rfl⟩ := M.lift_some e1
    cases d with
    | int k =>
      cases rp
      obtain ⟨w, e3, rw'⟩ := atI_rp (h5.mono s1.ex) e2
      exact ⟨a, vs, k, w, rfl, rfl, SqL.of (s1.keep a _ h2 h6 h7), e3, (p.mono s1).val R1.hs rw'⟩
    | none => cases e2
    | bool i => cases e2
    | str i => cases e2
    | list i => cases e2
    | tuple i => cases e2
    | dict i => cases e2
end
end Lay

set_option Elab.async false
set_option linter.all false
set_option maxRecDepth 100000
set_option maxHeartbeats 2000000
/-! Operations over data, one by one -/
namespace Lay
open PySem PySem.Spec PyProof.Rows L2

/-! ### the operations -/
def oII (f : Int → Int → D) : D → D → Option D
  | .int i, .int j => some (f i j)
  | _, _ => none
def oIIc (c : Int → Int → Bool) (f : Int → Int → D) : D → D → Option D
  | .int i, .int j => if c i j = true then some (f i j) else none
  | _, _ => none
def dAdd : D → D → Option D
  | .int i, .int j => some (.int (i + j))
  | .list xs, .list ys => if xs.length + ys.length ≤ sizeLine then some (.list (xs ++ ys)) else none
  | .tuple xs, .tuple ys => if xs.length + ys.length ≤ sizeLine then some (.tuple (xs ++ ys)) else none
  | _, _ => none
def dSub : D → D → Option D := oII fun i j => .int (i - j)
def smallI (i : Int) : Bool := decide (-(2 ^ 64) < i) && decide (i < 2 ^ 64)
def dMul : D → D → Option D
  | .int i, .int j => if (smallI i || smallI j) = true then some (.int (i * j)) else none
  | .list xs, .int k => if 0 ≤ k ∧ k ≤ 1000 ∧ xs.length * k.toNat ≤ sizeLine then some (.list (List.replicate k.toNat xs).flatten) else none
  | .tuple xs, .int k => if 2 ≤ k ∧ k ≤ 1000 ∧ xs.length ≤ 1000 ∧ 1 ≤ xs.length then some (.tuple (List.replicate k.toNat xs).flatten) else none
  | _, _ => none
def dDiv : D → D → Option D := oIIc (fun _ j => decide (j ≠ 0) && decide (j.natAbs < 1073741824)) fun i j => .int (i.fdiv j)
def dMod : D → D → Option D := oIIc (fun _ j => decide (j ≠ 0)) fun i j => .int (i.fmod j)
def dPow : D → D → Option D := oIIc (fun i j => decide (0 ≤ j) && decide (j ≤ 1000000) && decide (i.natAbs < 2 ^ 64)) fun i j => .int (i ^ j.toNat)
def dNeg : D → Option D
  | .int i => some (.int (-i))
  | _ => none
def dLt : D → D → Option D := oII fun i j => .bool (decide (i < j))
def dLe : D → D → Option D := oII fun i j => .bool (decide (i ≤ j))
def dGt : D → D → Option D := oII fun i j => .bool (decide (j < i))
def dGe : D → D → Option D := oII fun i j => .bool (decide (j ≤ i))
def dEq (d e : D) : Option D := if (SeqAt.shaped d && SeqAt.shaped e) = true then some (.bool (PyData.eqv d e)) else none
def dNe (d e : D) : Option D := if (SeqAt.shaped d && SeqAt.shaped e) = true then some (.bool (!PyData.eqv d e)) else none
def isNone : D → Bool
  | .none => true
  | _ => false
def dIs : D → D → Option D
  | d, .none => some (.bool (isNone d))
  | _, _ => none
def dNot : D → D → Option D
  | d, .none => some (.bool (!isNone d))
  | _, _ => none
def flatD : D → Bool
  | .none => true
  | .bool _ => true
  | .int _ => true
  | .str _ => true
  | _ => false
/-- in: a list of anything, a tuple of flat things -/
def dIn (d : D) : D → Option D
  | .list ds => if (SeqAt.shaped d && SeqAt.shaped (.list ds)) = true then some (.bool (ds.any fun z => PyData.eqv z d)) else none
  | .tuple ds => if (flatD d && ds.all flatD) = true then some (.bool (ds.any fun z => PyData.eqv z d)) else none
  | _ => none
def dNotIn (d : D) : D → Option D
  | .list ds => if (SeqAt.shaped d && SeqAt.shaped (.list ds)) = true then some (.bool (!ds.any fun z => PyData.eqv z d)) else none
  | .tuple ds => if (flatD d && ds.all flatD) = true then some (.bool (!ds.any fun z => PyData.eqv z d)) else none
  | _ => none
def dIx : D → D → Option D
  | .list ds, .int k => atI ds k
  | .tuple ds, .int k => atI ds k
  | _, _ => none
def cutD (ds : List D) (lo hi : Option Int) : List D := (ds.drop (HT.sIx ds.length 0 lo)).take (HT.sIx ds.length ds.length hi - HT.sIx ds.length 0 lo)
def dSl (x : D) (lo hi : Option Int) : Option D := match x with
  | .list ds => some (.list (cutD ds lo hi))
  | .tuple ds => some (.tuple (cutD ds lo hi))
  | _ => none
def eSl (a : EX) (lo hi : Option EX) : EX := fun ρ => M.bind (a ρ) fun x => M.bind (match lo with
    | none => M.pure none
    | some f => M.bind (f ρ) fun y => match y with
      | .int i => M.pure (some i)
      | _ => M.stuck) fun l => M.bind (match hi with
    | none => M.pure none
    | some f => M.bind (f ρ) fun y => match y with
      | .int i => M.pure (some i)
      | _ => M.stuck) fun u => M.lift (dSl x l u)
def dLen : List D → Option D
  | [.list ds] => some (.int ds.length)
  | [.tuple ds] => some (.int ds.length)
  | _ => none
def dAbs : List D → Option D
  | [.int i] => some (.int (if i < 0 then -i else i))
  | _ => none
def dInt : List D → Option D
  | [.int i] => some (.int i)
  | _ => none
def dMax2 : List D → Option D
  | [.int i, .int j] => some (.int (if j > i then j else i))
  | _ => none
def dMin2 : List D → Option D
  | [.int i, .int j] => some (.int (if j < i then j else i))
  | _ => none
def intsD : List D → Option (List Int)
  | [] => some []
  | .int i :: r => (intsD r).map (i :: ·)
  | _ :: _ => none
def boolsD : List D → Option (List Bool)
  | [] => some []
  | .bool i :: r => (boolsD r).map (i :: ·)
  | _ :: _ => none
def dSum : List D → Option D
  | [.list ds] => (intsD ds).map fun ns => .int ns.sum
  | _ => none
def maxI : List Int → Option Int
  | [] => none
  | i :: r => some (r.foldl (fun a b => if b > a then b else a) i)
def minI : List Int → Option Int
  | [] => none
  | i :: r => some (r.foldl (fun a b => if b < a then b else a) i)
def dMaxL : List D → Option D
  | [.list ds] => (intsD ds).bind fun ns => (maxI ns).map .int
  | _ => none
def dMinL : List D → Option D
  | [.list ds] => (intsD ds).bind fun ns => (minI ns).map .int
  | _ => none
def dAny : List D → Option D
  | [.list ds] => (boolsD ds).map fun bs => .bool (bs.any id)
  | _ => none
def dAll : List D → Option D
  | [.list ds] => (boolsD ds).map fun bs => .bool (bs.all id)
  | _ => none
def dList : List D → Option D
  | [.list ds] => some (.list ds)
  | [.tuple ds] => some (.list ds)
  | _ => none
def dTuple : List D → Option D
  | [.list ds] => some (.tuple ds)
  | [.tuple ds] => some (.tuple ds)
  | _ => none
/-- isinstance(x, T), T one of int, bool, tuple -/
def tyD : D → String
  | .none => "NoneType"
  | .bool _ => "bool"
  | .int _ => "int"
  | .str _ => "str"
  | .list _ => "list"
  | .tuple _ => "tuple"
  | .dict _ => "dict"
def isiB (T : String) (t : String) : Bool := t == T || (t == "bool" && T == "int")
def dIsi (T : String) : List D → Option D
  | [d] => some (.bool (isiB T (tyD d)))
  | _ => none

section
variable {C : Ct}
theorem raw_II {g : Int → Int → V} {f : Int → Int → D} (h : ∀ F i j, Rp F (g i j) (f i j)) : Raw2 C (rI0 g) (oII f) := fun F H δ x y d e z Q hs rx ry o p => by
  cases rx <;> first | (cases ry <;> first | (cases (Option.some.inj o); exact ⟨_, _, rfl, rfl, p.val hs (h _ _ _)⟩) | cases o) | cases o
theorem raw_IIc {cc : Int → Int → Prop} {c : Int → Int → Bool} {g : Int → Int → V} {f : Int → Int → D} (hc : ∀ i j, c i j = true → cc i j) (h : ∀ F i j, Rp F (g i j) (f i j)) : Raw2 C (rI cc g) (oIIc c f) := fun F H δ x y d e z Q hs rx ry o p => by
  cases rx <;> first | (cases ry <;> first | (rename_i i j; unfold oIIc at o; dsimp only at o; split at o <;> first | (rename_i hh; cases (Option.some.inj o); exact ⟨_, _, rfl, rfl, hc _ _ hh, p.val hs (h _ _ _)⟩) | cases o) | cases o) | cases o
theorem raw_sub : Raw2 C (rI0 fun i j => .int (i - j)) dSub := raw_II fun F i j => .int _
theorem raw_lt : Raw2 C (rI0 fun i j => .bl (decide (i < j))) dLt := raw_II fun F i j => .bl _
theorem raw_le : Raw2 C (rI0 fun i j => .bl (decide (i ≤ j))) dLe := raw_II fun F i j => .bl _
theorem raw_gt : Raw2 C (rI0 fun i j => .bl (decide (j < i))) dGt := raw_II fun F i j => .bl _
theorem raw_ge : Raw2 C (rI0 fun i j => .bl (decide (j ≤ i))) dGe := raw_II fun F i j => .bl _
theorem raw_div : Raw2 C (rI CDivN fun i j => .int (i.fdiv j)) dDiv := raw_IIc (fun i j h => by simpa [CDivN] using h) fun F i j => .int _
theorem raw_mod : Raw2 C (rI (fun _ j => j ≠ 0) fun i j => .int (i.fmod j)) dMod := raw_IIc (fun i j h => by simpa using h) fun F i j => .int _
theorem raw_pow : Raw2 C (rI CPow fun i j => .int (i ^ j.toNat)) dPow := raw_IIc (fun i j h => by simp at h; exact ⟨h.1.1, h.1.2, by simpa using h.2⟩) fun F i j => .int _
theorem raw_neg : Raw1 C (rU fun i => .int (-i)) dNeg := fun F H δ x d z Q hs rx o p => by
  cases rx <;> first | (cases (Option.some.inj o); exact ⟨_, rfl, p.val hs (.int _)⟩) | cases o
/-- + of ints, lists, tuples -/
def rAddD (K : PySem.W.Frag) : R2 := fun x y H Q => rI0 (fun i j => .int (i + j)) x y H Q ∨ (rCat x y H Q ∨ rCatA K x y H Q)
theorem op_addD {X : Cx} : OpR X (binaryOp .Add) (rAddD X.K) := op_add.or (op_cat.or op_catA)
theorem RpA.nil_iff {F : Hp} {vs : List V} {ds : List D} (r : RpA F vs ds) : vs = [] ↔ ds = [] := by cases r <;> simp
theorem raw_add {K : PySem.W.Frag} : Raw2 C (rAddD K) dAdd := fun F H δ x y d e z Q hs rx ry o p => by
  cases rx with
  | int i =>
    cases ry <;> first | (cases (Option.some.inj o); exact .inl ⟨_, _, rfl, rfl, p.val hs (.int _)⟩) | cases o
  | @lst a xs ds h1 r1 =>
    cases ry with
    | @lst b ys es h2 r2 =>
      unfold dAdd at o
      dsimp only at o
      split at o
      · rename_i hl
        cases (Option.some.inj o)
        exact .inr (.inl ⟨a, b, xs, ys, rfl, rfl, hs.sub _ _ h1, hs.sub _ _ h2, by rw [r1.length, r2.length]; exact hl, fun q nq => p.list hs nq (r1.append r2)⟩)
      · cases o
    | _ => cases o
  | @tup a xs ds h1 r1 =>
    cases ry with
    | @tup b ys es h2 r2 =>
      unfold dAdd at o
      dsimp only at o
      split at o
      · rename_i hl
        cases (Option.some.inj o)
        refine .inr (.inr ⟨a, b, xs, ys, rfl, rfl, SqT.of (hs.sub _ _ h1), SqT.of (hs.sub _ _ h2), by rw [r1.length, r2.length]; exact hl, fun e1 => ?_, fun _ e2 => ?_, fun _ _ q nq => p.tuple hs nq (r1.append r2)⟩)
        · have e3 := r1.nil_iff.mp e1
          subst e3
          exact p.val hs (.tup h2 r2)
        · have e3 := r2.nil_iff.mp e2
          subst e3
          rw [List.append_nil] at p
          exact p.val hs (.tup h1 r1)
      · cases o
    | _ => cases o
  | _ => cases o
/-- * of ints, a list and an int, a tuple and an int -/
def rMulD (K : PySem.W.Frag) : R2 := fun x y H Q => rI CMul (fun i j => .int (i * j)) x y H Q ∨ rRep x y H Q
theorem op_mulD {X : Cx} : OpR X (binaryOp .Mult) (rMulD X.K) := op_mul.or op_rep
theorem RpA.rep {F : Hp} {vs : List V} {ds : List D} (r : RpA F vs ds) : ∀ n : Nat, RpA F (List.replicate n vs).flatten (List.replicate n ds).flatten
  | 0 => .nil
  | n + 1 => by
    rw [List.replicate_succ, List.replicate_succ, List.flatten_cons, List.flatten_cons]
    exact r.append (RpA.rep r n)
/-- * without tuples -/
def dMulL : D → D → Option D
  | .int i, .int j => if (smallI i || smallI j) = true then some (.int (i * j)) else none
  | .list xs, .int k => if 0 ≤ k ∧ k ≤ 1000 ∧ xs.length * k.toNat ≤ sizeLine then some (.list (List.replicate k.toNat xs).flatten) else none
  | _, _ => none
theorem raw_mul {K : PySem.W.Frag} : Raw2 C (rMulD K) dMulL := fun F H δ x y d e z Q hs rx ry o p => by
  cases rx with
  | int i =>
    cases ry with
    | int j =>
      unfold dMulL at o
      dsimp only at o
      split at o
      · rename_i hl
        cases (Option.some.inj o)
        refine .inl ⟨_, _, rfl, rfl, ?_, p.val hs (.int _)⟩
        unfold smallI at hl
        simp only [Bool.or_eq_true, Bool.and_eq_true, decide_eq_true_eq] at hl
        exact hl
      · cases o
    | _ => cases o
  | @lst a xs ds h1 r1 =>
    cases ry with
    | int k =>
      unfold dMulL at o
      dsimp only at o
      split at o
      · rename_i hl
        cases (Option.some.inj o)
        obtain ⟨l1, l2, l3⟩ := hl
        exact .inr ⟨a, k, xs, rfl, rfl, hs.sub _ _ h1, by omega, by omega, by rw [r1.length]; exact l3, fun q nq => p.list hs nq (r1.rep _)⟩
      · cases o
    | _ => cases o
  | _ => cases o
theorem raw_eq {K : PySem.W.Frag} : Raw2 C (rEqD K) dEq := fun F H δ x y d e z Q hs rx ry o p => by
  unfold dEq at o
  split at o
  · rename_i hl
    cases (Option.some.inj o)
    rw [Bool.and_eq_true] at hl
    exact ⟨d, e, rx.dp hs.sub, ry.dp hs.sub, hl.1, hl.2, p.val hs (.bl _)⟩
  · cases o
theorem raw_ne {K : PySem.W.Frag} : Raw2 C (rNeD K) dNe := fun F H δ x y d e z Q hs rx ry o p => by
  unfold dNe at o
  split at o
  · rename_i hl
    cases (Option.some.inj o)
    rw [Bool.and_eq_true] at hl
    exact ⟨d, e, rx.dp hs.sub, ry.dp hs.sub, hl.1, hl.2, p.val hs (.bl _)⟩
  · cases o
theorem rp_none {F : Hp} {x : V} {d : D} (r : Rp F x d) : decide (x = .non) = isNone d := by cases r <;> simp [isNone]
theorem raw_is : Raw2 C (fun x y H Q => y = .non ∧ Q (.bl (decide (x = .non))) H) dIs := fun F H δ x y d e z Q hs rx ry o p => by
  cases ry with
  | non =>
    cases (Option.some.inj o)
    refine ⟨rfl, ?_⟩
    rw [rp_none rx]
    exact p.val hs (.bl _)
  | _ => cases d <;> cases o
theorem raw_not : Raw2 C (fun x y H Q => y = .non ∧ Q (.bl (!decide (x = .non))) H) dNot := fun F H δ x y d e z Q hs rx ry o p => by
  cases ry with
  | non =>
    cases (Option.some.inj o)
    refine ⟨rfl, ?_⟩
    rw [rp_none rx]
    exact p.val hs (.bl _)
  | _ => cases d <;> cases o
theorem flat_rp {F : Hp} {x : V} {d : D} (r : Rp F x d) (h : flatD d = true) : flatV x = true := by cases r <;> first | rfl | cases h
theorem flats_rp {F : Hp} : ∀ {xs : List V} {ds : List D}, RpA F xs ds → ds.all flatD = true → xs.all flatV = true
  | _, _, .nil, _ => rfl
  | _, _, .cons h r, e => by
    rw [List.all_cons, Bool.and_eq_true] at e ⊢
    exact ⟨flat_rp h e.1, flats_rp r e.2⟩
theorem eqV_rp {F : Hp} {x y : V} {d e : D} (r : Rp F x d) (r' : Rp F y e) (h : flatD d = true) (h' : flatD e = true) : eqV x y = PyData.eqv d e := by
  cases r <;> first | exact absurd h Bool.false_ne_true | (cases r' <;> first | exact absurd h' Bool.false_ne_true | (simp only [eqV, PyData.eqv]))
theorem inV_rp {F : Hp} {x : V} {d : D} (r : Rp F x d) (h : flatD d = true) : ∀ {xs : List V} {ds : List D}, RpA F xs ds → ds.all flatD = true → inV x xs = ds.any fun z => PyData.eqv z d
  | _, _, .nil, _ => rfl
  | _, _, .cons (v := v) (vs := vs) (d := d1) (ds := ds) h1 r1, e => by
    rw [List.all_cons, Bool.and_eq_true] at e
    have ih := inV_rp r h r1 e.2
    show (eqV v x || inV x vs) = (PyData.eqv d1 d || ds.any fun z => PyData.eqv z d)
    rw [ih, eqV_rp h1 r e.1 h]
def rInE (K : PySem.W.Frag) : R2 := fun x y H Q => rInD K x y H Q ∨ rIn K false x y H Q
def rNotInE (K : PySem.W.Frag) : R2 := fun x y H Q => rNotInD K x y H Q ∨ rIn K true x y H Q
theorem op_inE {X : Cx} (hu : X.A.units + 65 < cLine) : OpR X (compareOp .In) (rInE X.K) := (op_inD hu).or op_in_seq
theorem op_notInE {X : Cx} (hu : X.A.units + 65 < cLine) : OpR X (compareOp .NotIn) (rNotInE X.K) := (op_notInD hu).or op_notIn_seq
theorem raw_in {K : PySem.W.Frag} : Raw2 C (rInE K) dIn := fun F H δ x y d e z Q hs rx ry o p => by
  cases ry with
  | @lst a xs ds h1 r1 =>
    unfold dIn at o
    dsimp only at o
    split at o
    · rename_i hl
      cases (Option.some.inj o)
      rw [Bool.and_eq_true] at hl
      exact .inl ⟨d, ds, rx.dp hs.sub, (Rp.lst h1 r1).dp hs.sub, hl.1, hl.2, p.val hs (.bl _)⟩
    · cases o
  | @tup a xs ds h1 r1 =>
    unfold dIn at o
    dsimp only at o
    split at o
    · rename_i hl
      cases (Option.some.inj o)
      rw [Bool.and_eq_true] at hl
      refine .inr ⟨a, xs, rfl, .inr (SqT.of (hs.sub _ _ h1)), flat_rp rx hl.1, flats_rp r1 hl.2, ?_⟩
      show Q (.bl (inV x xs)) H
      rw [inV_rp rx hl.1 r1 hl.2]
      exact p.val hs (.bl _)
    · cases o
  | _ => cases d <;> cases o
theorem raw_notIn {K : PySem.W.Frag} : Raw2 C (rNotInE K) dNotIn := fun F H δ x y d e z Q hs rx ry o p => by
  cases ry with
  | @lst a xs ds h1 r1 =>
    unfold dNotIn at o
    dsimp only at o
    split at o
    · rename_i hl
      cases (Option.some.inj o)
      rw [Bool.and_eq_true] at hl
      exact .inl ⟨d, ds, rx.dp hs.sub, (Rp.lst h1 r1).dp hs.sub, hl.1, hl.2, p.val hs (.bl _)⟩
    · cases o
  | @tup a xs ds h1 r1 =>
    unfold dNotIn at o
    dsimp only at o
    split at o
    · rename_i hl
      cases (Option.some.inj o)
      rw [Bool.and_eq_true] at hl
      refine .inr ⟨a, xs, rfl, .inr (SqT.of (hs.sub _ _ h1)), flat_rp rx hl.1, flats_rp r1 hl.2, ?_⟩
      show Q (.bl (!inV x xs)) H
      rw [inV_rp rx hl.1 r1 hl.2]
      exact p.val hs (.bl _)
    · cases o
  | _ => cases d <;> cases o
theorem raw_ix {K : PySem.W.Frag} : Raw2 C (rIx K) dIx := fun F H δ x y d e z Q hs rx ry o p => by
  cases rx with
  | @lst a xs ds h1 r1 =>
    cases ry with
    | int k =>
      obtain ⟨v, e1, rv⟩ := atI_rp r1 (show atI ds k = some z from o)
      exact .inl ⟨a, xs, k, v, rfl, rfl, SqL.of (hs.sub _ _ h1), e1, p.val hs rv⟩
    | _ => cases o
  | @tup a xs ds h1 r1 =>
    cases ry with
    | int k =>
      obtain ⟨v, e1, rv⟩ := atI_rp r1 (show atI ds k = some z from o)
      exact .inr (.inl ⟨a, xs, k, v, rfl, rfl, SqT.of (hs.sub _ _ h1), e1, p.val hs rv⟩)
    | _ => cases o
  | _ => cases o
/-! slices -/
def EvO (C : Ct) (to : TO) (f : Option EX) : Prop := ∀ σ ρ F H δ (Q : Option Int → Hp → Prop), Rel C σ ρ F H δ → ∀ {β : Type} (k : Option Int → M β) (r : Except Str β × Dice), M.bind (match f with
    | none => M.pure none
    | some f => M.bind (f ρ) fun y => match y with
      | .int i => M.pure (some i)
      | _ => M.stuck) k δ = some r → (∀ nm δ', r = (.error nm, δ') → ErrP C nm δ') →
    (∀ o δ1 F1 H1, k o δ1 = some r → Rel C σ ρ F1 H1 δ1 → Step C.G C.aD F H F1 H1 → Q o H1) → to σ H Q
theorem evo_none : EvO C tNoPart none := fun σ ρ F H δ Q R β k r e he hk => hk none δ F H e R Step.refl
theorem evo_some {te : TE} {f : EX} (h : EvE C te f) : EvO C (tPart te) (some f) := fun σ ρ F H δ Q R β k r e he hk => by
  rw [M.bind_assoc] at e
  refine h.then R e he fun d δ1 v F1 H1 e1 R1 s1 rp => ?_
  cases rp with
  | int i => exact ⟨i, rfl, hk (some i) δ1 F1 H1 e1 R1 s1⟩
  | _ => cases e1
def rSlD (K : PySem.W.Frag) : V → Option Int → Option Int → Hp → VK → Prop := fun x lo hi H Q => rSlL K x lo hi H Q ∨ rSlA K x lo hi H Q
theorem sl_D {X : Cx} : SlR X (rSlD X.K) := sl_list.or sl_tupA
theorem ev_sl {K : PySem.W.Frag} {ta : TE} {fa : EX} {tl th : TO} {fl fh : Option EX} (ha : EvE C ta fa) (hl : EvO C tl fl) (hh : EvO C th fh) : EvE C (tSl (rSlD K) ta tl th) (eSl fa fl fh) := fun σ ρ F H δ Q r R e p =>
  ha.then R e p.err fun d δ1 v F1 H1 e1 R1 s1 rp => hl σ ρ F1 H1 δ1 _ R1 _ r e1 p.err fun o δ2 F2 H2 e2 R2 s2 => hh σ ρ F2 H2 δ2 _ R2 _ r e2 p.err fun o2 δ3 F3 H3 e3 R3 s3 => by
    obtain ⟨z, e4, rfl⟩ := M.lift_some e3
    have rp' := (rp.mono s2.ex).mono s3.ex
    have p' := p.mono ((s1.trans s2).trans s3)
    cases rp' with
    | @lst a xs ds h1 r1 =>
      cases (Option.some.inj e4)
      refine .inl ⟨a, xs, rfl, SqL.of (R3.hs.sub _ _ h1), fun q nq => ?_⟩
      refine ValP.list p' R3.hs nq ?_
      unfold cutV cutD
      rw [r1.length]
      exact (r1.drop _).take _
    | @tup a xs ds h1 r1 =>
      cases (Option.some.inj e4)
      refine .inr ⟨a, xs, rfl, SqT.of (R3.hs.sub _ _ h1), fun hw => ?_, fun _ q nq => ?_⟩
      · have ew : cutD ds o o2 = ds := by
          unfold cutD
          rw [← r1.length, hw.1, hw.2, List.drop_zero, Nat.sub_zero, r1.length, List.take_length]
        rw [ew] at p'
        exact ValP.val p' R3.hs (.tup h1 r1)
      · refine ValP.tuple p' R3.hs nq ?_
        unfold cutV cutD
        rw [r1.length]
        exact (r1.drop _).take _
    | _ => cases e4
/-! built-ins -/
theorem raw_len {K : PySem.W.Frag} : RawL C (fun xs H Q => ∃ p ys, xs = [V.ref p] ∧ (SqL K H p ys ∨ SqT K H p ys) ∧ Q (V.int ys.length) H) dLen := fun F H δ vs ds z Q hs r o p => by
  cases r with
  | nil => cases o
  | cons h1 r1 =>
    cases r1 with
    | nil =>
      cases h1 with
      | @lst a xs es e1 r2 => cases (Option.some.inj o); exact ⟨a, xs, rfl, .inl (SqL.of (hs.sub _ _ e1)), by rw [r2.length]; exact p.val hs (.int _)⟩
      | @tup a xs es e1 r2 => cases (Option.some.inj o); exact ⟨a, xs, rfl, .inr (SqT.of (hs.sub _ _ e1)), by rw [r2.length]; exact p.val hs (.int _)⟩
      | _ => cases o
    | cons h2 r2 => cases h1 <;> cases o
theorem raw_abs : RawL C (fun xs H Q => ∃ i, xs = [V.int i] ∧ Q (V.int (if i < 0 then -i else i)) H) dAbs := fun F H δ vs ds z Q hs r o p => by
  cases r with
  | nil => cases o
  | cons h1 r1 =>
    cases r1 with
    | nil => cases h1 <;> first | (cases (Option.some.inj o); exact ⟨_, rfl, p.val hs (.int _)⟩) | cases o
    | cons h2 r2 => cases h1 <;> cases o
theorem raw_int : RawL C (fun xs H Q => (∃ i, xs = [V.int i] ∧ Q (V.int i) H) ∨ ∃ k, xs = [V.bl k] ∧ Q (V.int (if k then 1 else 0)) H) dInt := fun F H δ vs ds z Q hs r o p => by
  cases r with
  | nil => cases o
  | cons h1 r1 =>
    cases r1 with
    | nil => cases h1 <;> first | (cases (Option.some.inj o); exact .inl ⟨_, rfl, p.val hs (.int _)⟩) | cases o
    | cons h2 r2 => cases h1 <;> cases o
theorem raw_max2 : RawL C (fun xs H Q => ∃ i j, xs = [V.int i, V.int j] ∧ Q (V.int (if j > i then j else i)) H) dMax2 := fun F H δ vs ds z Q hs r o p => by
  cases r with
  | nil => cases o
  | cons h1 r1 =>
    cases r1 with
    | nil => cases h1 <;> cases o
    | cons h2 r2 =>
      cases r2 with
      | nil => cases h1 <;> first | (cases h2 <;> first | (cases (Option.some.inj o); exact ⟨_, _, rfl, p.val hs (.int _)⟩) | cases o) | cases o
      | cons h3 r3 => cases h1 <;> first | (cases h2 <;> cases o) | cases o
theorem raw_min2 : RawL C (fun xs H Q => ∃ i j, xs = [V.int i, V.int j] ∧ Q (V.int (if j < i then j else i)) H) dMin2 := fun F H δ vs ds z Q hs r o p => by
  cases r with
  | nil => cases o
  | cons h1 r1 =>
    cases r1 with
    | nil => cases h1 <;> cases o
    | cons h2 r2 =>
      cases r2 with
      | nil => cases h1 <;> first | (cases h2 <;> first | (cases (Option.some.inj o); exact ⟨_, _, rfl, p.val hs (.int _)⟩) | cases o) | cases o
      | cons h3 r3 => cases h1 <;> first | (cases h2 <;> cases o) | cases o
theorem ints_rp {F : Hp} : ∀ {vs : List V} {ds : List D} {ns : List Int}, RpA F vs ds → intsD ds = some ns → vs = ns.map V.int
  | _, _, _, .nil, e => by cases (Option.some.inj e); rfl
  | _, _, _, .cons h r, e => by
    cases h with
    | int i =>
      unfold intsD at e
      obtain ⟨ns', e1, e2⟩ := Option.map_eq_some_iff.mp e
      subst e2
      rw [ints_rp r e1]
      rfl
    | _ => cases e
theorem bools_rp {F : Hp} : ∀ {vs : List V} {ds : List D} {ns : List Bool}, RpA F vs ds → boolsD ds = some ns → vs = ns.map V.bl
  | _, _, _, .nil, e => by cases (Option.some.inj e); rfl
  | _, _, _, .cons h r, e => by
    cases h with
    | bl i =>
      unfold boolsD at e
      obtain ⟨ns', e1, e2⟩ := Option.map_eq_some_iff.mp e
      subst e2
      rw [bools_rp r e1]
      rfl
    | _ => cases e
theorem one_list {F : Hp} {vs : List V} {ds : List D} (r : RpA F vs [.list ds]) : ∃ a xs, vs = [.ref a] ∧ F a = some (.lst xs) ∧ RpA F xs ds := by
  obtain ⟨v, rfl, h⟩ := r.one
  cases h with
  | lst h1 h2 => exact ⟨_, _, rfl, h1, h2⟩
theorem raw_sum {K : PySem.W.Frag} : RawL C (rSum K) dSum := fun F H δ vs ds z Q hs r o p => by
  unfold dSum at o
  split at o
  · rename_i es
    obtain ⟨ns, e1, e2⟩ := Option.map_eq_some_iff.mp o
    subst e2
    obtain ⟨a, xs, rfl, h1, h2⟩ := one_list r
    have e3 := ints_rp h2 e1
    subst e3
    exact ⟨a, ns, rfl, SqL.of (hs.sub _ _ h1), p.val hs (.int _)⟩
  · cases o
theorem maxI_ge : ∀ (r : List Int) (i : Int), (∀ y, y ∈ i :: r → y ≤ r.foldl (fun a b => if b > a then b else a) i) ∧ r.foldl (fun a b => if b > a then b else a) i ∈ i :: r
  | [], i => ⟨fun y h => by simp at h; subst h; exact Int.le_refl _, by simp⟩
  | j :: r, i => by
    have ih := maxI_ge r (if j > i then j else i)
    show (∀ y, y ∈ i :: j :: r → y ≤ r.foldl _ (if j > i then j else i)) ∧ r.foldl _ (if j > i then j else i) ∈ i :: j :: r
    refine ⟨fun y h => ?_, ?_⟩
    · have h0 := ih.1 (if j > i then j else i) (List.mem_cons_self ..)
      simp only [List.mem_cons] at h
      rcases h with rfl | rfl | h
      · split at h0 <;> (try split) <;> omega
      · split at h0 <;> (try split) <;> omega
      · exact ih.1 y (List.mem_cons_of_mem _ h)
    · rcases List.mem_cons.mp ih.2 with h | h
      · rw [h]
        split <;> simp
      · exact List.mem_cons_of_mem _ (List.mem_cons_of_mem _ h)
theorem minI_le : ∀ (r : List Int) (i : Int), (∀ y, y ∈ i :: r → r.foldl (fun a b => if b < a then b else a) i ≤ y) ∧ r.foldl (fun a b => if b < a then b else a) i ∈ i :: r
  | [], i => ⟨fun y h => by simp at h; subst h; exact Int.le_refl _, by simp⟩
  | j :: r, i => by
    have ih := minI_le r (if j < i then j else i)
    show (∀ y, y ∈ i :: j :: r → r.foldl _ (if j < i then j else i) ≤ y) ∧ r.foldl _ (if j < i then j else i) ∈ i :: j :: r
    refine ⟨fun y h => ?_, ?_⟩
    · have h0 := ih.1 (if j < i then j else i) (List.mem_cons_self ..)
      simp only [List.mem_cons] at h
      rcases h with rfl | rfl | h
      · split at h0 <;> (try split) <;> omega
      · split at h0 <;> (try split) <;> omega
      · exact ih.1 y (List.mem_cons_of_mem _ h)
    · rcases List.mem_cons.mp ih.2 with h | h
      · rw [h]
        split <;> simp
      · exact List.mem_cons_of_mem _ (List.mem_cons_of_mem _ h)
theorem raw_maxL {K : PySem.W.Frag} : RawL C (rMax K) dMaxL := fun F H δ vs ds z Q hs r o p => by
  unfold dMaxL at o
  split at o
  · rename_i es
    obtain ⟨ns, e1, e2⟩ := Option.bind_eq_some_iff.mp o
    obtain ⟨m, e3, e4⟩ := Option.map_eq_some_iff.mp e2
    subst e4
    obtain ⟨a, xs, rfl, h1, h2⟩ := one_list r
    have e5 := ints_rp h2 e1
    subst e5
    cases ns with
    | nil => cases e3
    | cons i r' =>
      cases (Option.some.inj e3)
      refine ⟨a, i :: r', rfl, SqL.of (hs.sub _ _ h1), by simp, fun m hm hmx => ?_⟩
      have q := maxI_ge r' i
      have em : m = r'.foldl (fun a b => if b > a then b else a) i := Int.le_antisymm (q.1 m hm) (hmx _ q.2)
      rw [em]
      exact p.val hs (.int _)
  · cases o
theorem raw_minL {K : PySem.W.Frag} : RawL C (rMin K) dMinL := fun F H δ vs ds z Q hs r o p => by
  unfold dMinL at o
  split at o
  · rename_i es
    obtain ⟨ns, e1, e2⟩ := Option.bind_eq_some_iff.mp o
    obtain ⟨m, e3, e4⟩ := Option.map_eq_some_iff.mp e2
    subst e4
    obtain ⟨a, xs, rfl, h1, h2⟩ := one_list r
    have e5 := ints_rp h2 e1
    subst e5
    cases ns with
    | nil => cases e3
    | cons i r' =>
      cases (Option.some.inj e3)
      refine ⟨a, i :: r', rfl, SqL.of (hs.sub _ _ h1), by simp, fun m hm hmx => ?_⟩
      have q := minI_le r' i
      have em : m = r'.foldl (fun a b => if b < a then b else a) i := Int.le_antisymm (hmx _ q.2) (q.1 m hm)
      rw [em]
      exact p.val hs (.int _)
  · cases o
theorem raw_any {K : PySem.W.Frag} : RawL C (rAny K) dAny := fun F H δ vs ds z Q hs r o p => by
  unfold dAny at o
  split at o
  · rename_i es
    obtain ⟨ns, e1, e2⟩ := Option.map_eq_some_iff.mp o
    subst e2
    obtain ⟨a, xs, rfl, h1, h2⟩ := one_list r
    have e3 := bools_rp h2 e1
    subst e3
    exact ⟨a, ns, rfl, SqL.of (hs.sub _ _ h1), p.val hs (.bl _)⟩
  · cases o
theorem raw_all {K : PySem.W.Frag} : RawL C (rAll K) dAll := fun F H δ vs ds z Q hs r o p => by
  unfold dAll at o
  split at o
  · rename_i es
    obtain ⟨ns, e1, e2⟩ := Option.map_eq_some_iff.mp o
    subst e2
    obtain ⟨a, xs, rfl, h1, h2⟩ := one_list r
    have e3 := bools_rp h2 e1
    subst e3
    exact ⟨a, ns, rfl, SqL.of (hs.sub _ _ h1), p.val hs (.bl _)⟩
  · cases o
theorem raw_list {K : PySem.W.Frag} : RawL C (fun xs H Q => ∃ p ys, xs = [V.ref p] ∧ (SqL K H p ys ∨ SqT K H p ys) ∧ ∀ l, H l = none → Q (V.ref l) (upd H l (.lst ys))) dList := fun F H δ vs ds z Q hs r o p => by
  cases r with
  | nil => cases o
  | cons h1 r1 =>
    cases r1 with
    | nil =>
      cases h1 with
      | @lst a xs es e1 r2 => cases (Option.some.inj o); exact ⟨a, xs, rfl, .inl (SqL.of (hs.sub _ _ e1)), fun q nq => p.list hs nq r2⟩
      | @tup a xs es e1 r2 => cases (Option.some.inj o); exact ⟨a, xs, rfl, .inr (SqT.of (hs.sub _ _ e1)), fun q nq => p.list hs nq r2⟩
      | _ => cases o
    | cons h2 r2 => cases h1 <;> cases o
theorem raw_tuple {K : PySem.W.Frag} : RawL C (fun xs H Q => ∃ p ys, xs = [V.ref p] ∧ ((SqL K H p ys ∧ ∀ l, H l = none → Q (V.ref l) (upd H l (.tup ys))) ∨ (SqT K H p ys ∧ Q (V.ref p) H))) dTuple := fun F H δ vs ds z Q hs r o p => by
  cases r with
  | nil => cases o
  | cons h1 r1 =>
    cases r1 with
    | nil =>
      cases h1 with
      | @lst a xs es e1 r2 => cases (Option.some.inj o); exact ⟨a, xs, rfl, .inl ⟨SqL.of (hs.sub _ _ e1), fun q nq => p.tuple hs nq r2⟩⟩
      | @tup a xs es e1 r2 => cases (Option.some.inj o); exact ⟨a, xs, rfl, .inr ⟨SqT.of (hs.sub _ _ e1), p.val hs (.tup e1 r2)⟩⟩
      | _ => cases o
    | cons h2 r2 => cases h1 <;> cases o
end
end Lay

set_option Elab.async false
set_option linter.all false
set_option maxRecDepth 100000
set_option maxHeartbeats 2000000
/-! Targets, iterators, comprehensions, all(..) -/
namespace Lay
open PySem PySem.Spec PyProof.Rows L2 RZ

section
variable {C : Ct}
/-! ### isinstance -/
theorem kit_all : ∀ T ∈ ["int", "bool", "tuple"], ∀ t ∈ ["NoneType", "bool", "int", "str", "list", "tuple"], kitB t T = some (isiB T t) := by decide +kernel
theorem tyD_mem {F : Hp} {v : V} {d : D} (r : Rp F v d) : tyD d ∈ ["NoneType", "bool", "int", "str", "list", "tuple"] := by cases r <;> simp [tyD]
theorem tyOf_rp {K : PySem.W.Frag} {F H : Hp} (e : Ext F H) {v : V} {d : D} (r : Rp F v d) : TyOf K H v (.type (tyD d)) := by
  cases r with
  | non => exact .non
  | bl b => exact .bl b
  | int i => exact .int i
  | str x => exact .str x
  | lst h _ => exact .lst (e _ _ h)
  | tup h _ => exact .tup (e _ _ h)
theorem ev_isi {K : PySem.W.Frag} {T : String} {ta : TE} {fa : EX} (hT : T ∈ ["int", "bool", "tuple"]) (ha : EvE C ta fa) : EvE C (tCB (rIsi K) (tCons ta (tCons (tC (.ty T)) tNil))) (eCallB (dIsi T) (lCons fa lNil)) := fun σ ρ F H δ Q r R e p => by
  refine ha.then R (k := fun x => M.lift (dIsi T [x])) (by
    have e' : M.bind (M.bind (fa ρ) fun x => M.bind (M.pure ([] : List D)) fun xs => M.pure (x :: xs)) (fun xs => M.lift (dIsi T xs)) δ = some r := e
    rw [M.bind_assoc] at e'
    exact e') p.err fun d δ1 v F1 H1 e1 R1 s1 rp => ?_
  obtain ⟨z, e2, rfl⟩ := M.lift_some e1
  cases (Option.some.inj e2)
  exact ⟨v, .ty T, .type (tyD d), .type T, _, rfl, .ty T, .base (tyOf_rp R1.hs.sub rp), kit_ty (kit_all T hT _ (tyD_mem rp)), (p.mono s1).val R1.hs (.bl _)⟩

/-! ### targets -/
theorem evg_name {i : Nat} : EvG C (gName i) (.n i) := fun v d σ ρ ρ' F H δ Q R rp e q => by
  unfold bindT at e
  split at e
  · cases (Option.some.inj e)
    refine q _ (R.setV rp) fun j hj => ?_
    rw [List.getElem?_set_ne (fun z => hj (by simp [slotsT, z]))]
  · cases e
theorem evgs_nil : EvGs C gNil [] := fun vs ds σ ρ ρ' F H δ Q R rp e q => by
  cases rp with
  | nil => cases (Option.some.inj e); exact ⟨rfl, q σ R fun _ _ => rfl⟩
  | cons h r => cases e
theorem evgs_cons {g : TG} {gs : TGs} {t : Tg} {ts : List Tg} (h1 : EvG C g t) (h2 : EvGs C gs ts) : EvGs C (gCons g gs) (t :: ts) := fun vs ds σ ρ ρ' F H δ Q R rp e q => by
  cases rp with
  | nil => cases e
  | @cons v vs d ds h r =>
    unfold bindTs at e
    split at e
    · rename_i ρ1 e1
      refine ⟨v, vs, rfl, h1 v d σ ρ ρ1 F H δ _ R h e1 fun σ1 R1 k1 => ?_⟩
      refine h2 vs ds σ1 ρ1 ρ' F H δ _ R1 r e fun σ2 R2 k2 => q σ2 R2 fun i hi => ?_
      unfold slotsTs at hi
      rw [List.mem_append, not_or] at hi
      rw [k2 i hi.2, k1 i hi.1]
    · cases e
theorem evg_tup {K : PySem.W.Frag} {n : Nat} {gs : TGs} {ts : List Tg} (h : EvGs C gs ts) (hn : ts.length = n) : EvG C (gTup K n gs) (.t ts) := fun v d σ ρ ρ' F H δ Q R rp e q => by
  cases rp with
  | @tup a xs ds h1 r1 =>
    unfold bindT at e
    have len : ∀ (ts : List Tg) (ds : List D) (ρ ρ' : En), bindTs ts ρ ds = some ρ' → ds.length = ts.length := by
      intro ts
      induction ts with
      | nil => intro ds ρ ρ' e; cases ds with
        | nil => rfl
        | cons d ds => cases e
      | cons t ts ih => intro ds ρ ρ' e; cases ds with
        | nil => cases e
        | cons d ds =>
          unfold bindTs at e
          split at e
          · rw [List.length_cons, List.length_cons, ih _ _ _ e]
          · cases e
    exact ⟨a, xs, rfl, SqT.of (R.hs.sub _ _ h1), by rw [r1.length, len _ _ _ _ e, hn], h xs ds σ ρ ρ' F H δ Q R r1 e fun σ' R' k => q σ' R' k⟩
  | _ => cases e
theorem wipe_eq {σ σ' : L2.St} (hl : σ'.length = σ.length) : ∀ {vs : List Nat}, (∀ i, i ∉ vs → σ'[i]? = σ[i]?) → wipe σ' vs = wipe σ vs := fun {vs} h => by
  apply List.ext_getElem?
  intro i
  by_cases hi : i ∈ vs
  · have key : ∀ (σ : L2.St) (vs : List Nat), i ∈ vs → (wipe σ vs)[i]? = if i < σ.length then some none else none := by
      intro σ vs
      induction vs with
      | nil => intro h; cases h
      | cons v vs ih =>
        intro h
        unfold wipe
        by_cases hv : v = i
        · subst hv
          by_cases hlt : v < (wipe σ vs).length
          · rw [List.getElem?_set_self hlt, if_pos (by rw [wipe_length] at hlt; exact hlt)]
          · rw [List.getElem?_eq_none (by simpa using hlt), if_neg (by rw [wipe_length] at hlt; exact hlt)]
        · rw [List.getElem?_set_ne hv]
          rcases List.mem_cons.mp h with z | z
          · exact absurd z.symm hv
          · exact ih z
    rw [key σ' vs hi, key σ vs hi, hl]
  · rw [wipe_out hi, wipe_out hi, h i hi]

mutual
theorem bindT_len : ∀ (t : Tg) (ρ ρ' : En) (d : D), bindT t ρ d = some ρ' → ρ'.length = ρ.length
  | .n i, ρ, ρ', d, e => by
    unfold bindT at e
    split at e
    · cases (Option.some.inj e); unfold setV; rw [List.length_set]
    · cases e
  | .t ts, ρ, ρ', .tuple ds, e => bindTs_len ts ρ ρ' ds (by unfold bindT at e; exact e)
  | .t ts, ρ, ρ', .none, e => by cases e
  | .t ts, ρ, ρ', .bool _, e => by cases e
  | .t ts, ρ, ρ', .int _, e => by cases e
  | .t ts, ρ, ρ', .str _, e => by cases e
  | .t ts, ρ, ρ', .list _, e => by cases e
  | .t ts, ρ, ρ', .dict _, e => by cases e
theorem bindTs_len : ∀ (ts : List Tg) (ρ ρ' : En) (ds : List D), bindTs ts ρ ds = some ρ' → ρ'.length = ρ.length
  | [], ρ, ρ', [], e => by cases (Option.some.inj e); rfl
  | [], ρ, ρ', _ :: _, e => by cases e
  | _ :: _, ρ, ρ', [], e => by cases e
  | t :: ts, ρ, ρ', d :: ds, e => by
    unfold bindTs at e
    split at e
    · rename_i ρ1 e1
      rw [bindTs_len ts ρ1 ρ' ds e, bindT_len t ρ ρ1 d e1]
    · cases e
end

/-! ### iterators -/
theorem yields_list {K : PySem.W.Frag} {a : Addr} {vs : List V} {ds : List D} {F1 : Hp} (h : F1 a = some (.lst vs)) (r : RpA F1 vs ds) : Yields C (Itl K a) ds F1 := fun i F H δ x hs => by
  have hH := hs.sub _ _ (x _ _ h)
  refine ⟨fun hi => ?_, fun hi => ⟨vs, SqL.of hH, by rw [r.length]; exact hi⟩⟩
  obtain ⟨v, e1, rv⟩ := r.get (List.getElem?_eq_getElem hi)
  refine ⟨⟨vs, v, SqL.of hH, e1⟩, fun y H' hy => ?_⟩
  obtain ⟨rfl, hy⟩ := hy
  have e2 := hy vs (SqL.of hH)
  rw [e1] at e2
  cases e2
  exact ⟨_, F, List.getElem?_eq_getElem hi, hs, Step.refl, rv.mono x⟩
theorem yields_tup {K : PySem.W.Frag} {a : Addr} {vs : List V} {ds : List D} {F1 : Hp} (h : F1 a = some (.tup vs)) (r : RpA F1 vs ds) : Yields C (Itt K a) ds F1 := fun i F H δ x hs => by
  have hH := hs.sub _ _ (x _ _ h)
  refine ⟨fun hi => ?_, fun hi => ⟨vs, SqT.of hH, by rw [r.length]; exact hi⟩⟩
  obtain ⟨v, e1, rv⟩ := r.get (List.getElem?_eq_getElem hi)
  refine ⟨⟨vs, v, SqT.of hH, e1⟩, fun y H' hy => ?_⟩
  obtain ⟨rfl, hy⟩ := hy
  have e2 := hy vs (SqT.of hH)
  rw [e1] at e2
  cases e2
  exact ⟨_, F, List.getElem?_eq_getElem hi, hs, Step.refl, rv.mono x⟩
theorem rngL_get {lo : Int} {n i : Nat} (h : i < n) : (rngL lo n)[i]? = some (.int (lo + (i : Nat))) := by
  unfold rngL
  rw [List.getElem?_map, List.getElem?_range h]
  rfl
theorem rngL_len {lo : Int} {n : Nat} : (rngL lo n).length = n := by unfold rngL; rw [List.length_map, List.length_range]
theorem yields_range {lo : Int} {n : Nat} {F1 : Hp} : Yields C (Itr lo n) (rngL lo n) F1 := fun i F H δ x hs => by
  refine ⟨fun hi => ?_, fun hi => by rw [rngL_len] at hi; exact hi⟩
  rw [rngL_len] at hi
  refine ⟨hi, fun y H' hy => ?_⟩
  obtain ⟨rfl, rfl⟩ := hy
  exact ⟨_, F, rngL_get hi, hs, Step.refl, .int _⟩
variable {ta tb : TE} {fa fb : EX}
theorem evi_list {K : PySem.W.Frag} (ha : EvE C ta fa) : EvI C (iList K ta) (itL fa) := fun σ ρ F H δ Q r R e p =>
  ha.then R e p.err fun d δ1 v F1 H1 e1 R1 s1 rp => by
    cases rp with
    | @lst a vs ds h1 r1 =>
      cases (Option.some.inj e1).symm
      exact ⟨a, rfl, ⟨vs, SqL.of (R1.hs.sub _ _ h1)⟩, p _ F1 H1 R1.hs s1 (yields_list h1 r1)⟩
    | _ => cases e1
theorem evi_tup {K : PySem.W.Frag} (ha : EvE C ta fa) : EvI C (iTup K ta) (itT fa) := fun σ ρ F H δ Q r R e p =>
  ha.then R e p.err fun d δ1 v F1 H1 e1 R1 s1 rp => by
    cases rp with
    | @tup a vs ds h1 r1 =>
      cases (Option.some.inj e1).symm
      exact ⟨a, rfl, ⟨vs, SqT.of (R1.hs.sub _ _ h1)⟩, p _ F1 H1 R1.hs s1 (yields_tup h1 r1)⟩
    | _ => cases e1
theorem inR_iff {i : Int} (h : inR i = true) : -(2 ^ 62) ≤ i ∧ i < 2 ^ 62 := by unfold inR at h; simpa using h
theorem evi_range1 (ha : EvE C ta fa) : EvI C (iRng1 (tCons ta tNil)) (itR1 fa) := fun σ ρ F H δ Q r R e p =>
  ha.then R e p.err fun d δ1 v F1 H1 e1 R1 s1 rp => by
    cases rp with
    | int j =>
      dsimp only at e1
      split at e1
      · rename_i hj
        cases (Option.some.inj e1).symm
        obtain ⟨h1, h2⟩ := inR_iff hj
        exact ⟨j, rfl, h1, h2, p _ F1 H1 R1.hs s1 yields_range⟩
      · cases e1
    | _ => cases e1
theorem evi_range2 (ha : EvE C ta fa) (hb : EvE C tb fb) : EvI C (iRng2 (tCons ta (tCons tb tNil))) (itR2 fa fb) := fun σ ρ F H δ Q r R e p =>
  ha.then R e p.err fun d δ1 v F1 H1 e1 R1 s1 rp => hb.then R1 e1 p.err fun d2 δ2 v2 F2 H2 e2 R2 s2 rp2 => by
    cases rp with
    | int i =>
      cases rp2 with
      | int j =>
        dsimp only at e2
        split at e2
        · rename_i hj
          rw [Bool.and_eq_true] at hj
          cases (Option.some.inj e2).symm
          obtain ⟨h1, h2⟩ := inR_iff hj.1
          obtain ⟨h3, h4⟩ := inR_iff hj.2
          exact ⟨i, j, rfl, ⟨h1, h2, h3, h4⟩, p _ F2 H2 R2.hs (s1.trans s2) yields_range⟩
        · cases e2
      | _ => cases e2
    | _ => cases e2
theorem zipD_len : ∀ (xs ys : List D), (zipD xs ys).length = min xs.length ys.length
  | [], _ => by simp [zipD]
  | _ :: _, [] => by simp [zipD]
  | x :: xs, y :: ys => by
    show (zipD xs ys).length + 1 = min (xs.length + 1) (ys.length + 1)
    rw [zipD_len xs ys]
    omega
theorem zipD_get : ∀ (xs ys : List D) (i : Nat) (x y : D), xs[i]? = some x → ys[i]? = some y → (zipD xs ys)[i]? = some (.tuple [x, y])
  | [], _, _, _, _, h, _ => by simp at h
  | _ :: _, [], _, _, _, _, h => by simp at h
  | a :: xs, b :: ys, 0, x, y, h, h' => by simp at h h'; subst h; subst h'; rfl
  | a :: xs, b :: ys, i + 1, x, y, h, h' => zipD_get xs ys i x y (by simpa using h) (by simpa using h')
/-- the pair that zip makes -/
theorem zip_item {F H : Hp} {δ : Dice} {T : Addr} {x y : V} {d e : D} (hs : Hs C.G C.aD F H δ) (n : H T = none) (rx : Rp F x d) (ry : Rp F y e) :
    ∃ F', Hs C.G C.aD F' (upd H T (.tup [x, y])) δ ∧ Step C.G C.aD F H F' (upd H T (.tup [x, y])) ∧ Rp F' (.ref T) (.tuple [d, e]) := by
  have st : Step C.G C.aD F H (upd F T (.tup [x, y])) (upd H T (.tup [x, y])) := Step.laid (hs.fne n) n
  exact ⟨_, hs.laid n, st, .tup upd_same (.cons (rx.mono st.ex) (.cons (ry.mono st.ex) .nil))⟩
theorem yields_zipT {K : PySem.W.Frag} {a b : Addr} {vs ws : List V} {ds es : List D} {F1 : Hp} (h : F1 a = some (.tup vs)) (r : RpA F1 vs ds) (h' : F1 b = some (.tup ws)) (r' : RpA F1 ws es) : Yields C (ItzT K a b) (zipD ds es) F1 := fun i F H δ x hs => by
  have hH := hs.sub _ _ (x _ _ h)
  have hH' := hs.sub _ _ (x _ _ h')
  refine ⟨fun hi => ?_, fun hi => ⟨vs, ws, SqT.of hH, SqT.of hH', by rw [zipD_len] at hi; rw [r.length, r'.length]; omega⟩⟩
  rw [zipD_len] at hi
  have i1 : i < ds.length := by omega
  have i2 : i < es.length := by omega
  obtain ⟨v, e1, rv⟩ := r.get (List.getElem?_eq_getElem i1)
  obtain ⟨u, e2, ru⟩ := r'.get (List.getElem?_eq_getElem i2)
  refine ⟨⟨vs, ws, v, u, SqT.of hH, SqT.of hH', e1, e2⟩, fun y H' hy => ?_⟩
  obtain ⟨T, p, q, rfl, n, rfl, q1, q2⟩ := hy
  have z1 := q1 vs (SqT.of hH)
  have z2 := q2 ws (SqT.of hH')
  rw [e1] at z1; rw [e2] at z2
  cases z1; cases z2
  obtain ⟨F', a1, a2, a3⟩ := zip_item (C := C) hs n (rv.mono x) (ru.mono x)
  exact ⟨_, F', zipD_get _ _ i _ _ (List.getElem?_eq_getElem i1) (List.getElem?_eq_getElem i2), a1, a2, a3⟩
theorem yields_zipL {K : PySem.W.Frag} {a b : Addr} {vs ws : List V} {ds es : List D} {F1 : Hp} (h : F1 a = some (.lst vs)) (r : RpA F1 vs ds) (h' : F1 b = some (.lst ws)) (r' : RpA F1 ws es) : Yields C (Itz K a b) (zipD ds es) F1 := fun i F H δ x hs => by
  have hH := hs.sub _ _ (x _ _ h)
  have hH' := hs.sub _ _ (x _ _ h')
  refine ⟨fun hi => ?_, fun hi => ⟨vs, ws, SqL.of hH, SqL.of hH', by rw [zipD_len] at hi; rw [r.length, r'.length]; omega⟩⟩
  rw [zipD_len] at hi
  have i1 : i < ds.length := by omega
  have i2 : i < es.length := by omega
  obtain ⟨v, e1, rv⟩ := r.get (List.getElem?_eq_getElem i1)
  obtain ⟨u, e2, ru⟩ := r'.get (List.getElem?_eq_getElem i2)
  refine ⟨⟨vs, ws, v, u, SqL.of hH, SqL.of hH', e1, e2⟩, fun y H' hy => ?_⟩
  obtain ⟨T, p, q, rfl, n, rfl, q1, q2⟩ := hy
  have z1 := q1 vs (SqL.of hH)
  have z2 := q2 ws (SqL.of hH')
  rw [e1] at z1; rw [e2] at z2
  cases z1; cases z2
  obtain ⟨F', a1, a2, a3⟩ := zip_item (C := C) hs n (rv.mono x) (ru.mono x)
  exact ⟨_, F', zipD_get _ _ i _ _ (List.getElem?_eq_getElem i1) (List.getElem?_eq_getElem i2), a1, a2, a3⟩
/-- zip of two lists, of two tuples -/
def itZS (a b : EX) : EL := fun ρ => M.bind (a ρ) fun x => M.bind (b ρ) fun y => M.lift (match x, y with
  | .list ds, .list es => some (zipD ds es)
  | .tuple ds, .tuple es => some (zipD ds es)
  | _, _ => none)
theorem evi_zip {K : PySem.W.Frag} (ha : EvE C ta fa) (hb : EvE C tb fb) : EvI C (iZipA K (tCons ta (tCons tb tNil))) (itZS fa fb) := fun σ ρ F H δ Q r R e p =>
  ha.then R e p.err fun d δ1 v F1 H1 e1 R1 s1 rp => hb.then R1 e1 p.err fun d2 δ2 v2 F2 H2 e2 R2 s2 rp2 => by
    obtain ⟨z, e3, rfl⟩ := M.lift_some e2
    have rp' := rp.mono s2.ex
    cases rp' with
    | @lst a vs ds h1 r1 =>
      cases rp2 with
      | @lst b ws es h2 r2 =>
        cases (Option.some.inj e3)
        exact ⟨a, b, vs, ws, rfl, .inl ⟨SqL.of (R2.hs.sub _ _ h1), SqL.of (R2.hs.sub _ _ h2), p _ F2 H2 R2.hs (s1.trans s2) (yields_zipL h1 r1 h2 r2)⟩⟩
      | _ => cases e3
    | @tup a vs ds h1 r1 =>
      cases rp2 with
      | @tup b ws es h2 r2 =>
        cases (Option.some.inj e3)
        exact ⟨a, b, vs, ws, rfl, .inr ⟨SqT.of (R2.hs.sub _ _ h1), SqT.of (R2.hs.sub _ _ h2), p _ F2 H2 R2.hs (s1.trans s2) (yields_zipT h1 r1 h2 r2)⟩⟩
      | _ => cases e3
    | _ => cases e3

/-! ### list comprehensions -/
/-- the same entry, where no error may be let out -/
abbrev Ct.quiet (C : Ct) : Ct := { C with E := E0 }
theorem Rel.quiet {σ : L2.St} {ρ : En} {F H : Hp} {δ : Dice} (R : Rel C σ ρ F H δ) : Rel C.quiet σ ρ F H δ := ⟨R.hs, R.st, R.h0, R.len, R.sl, R.ap, R.xl⟩
theorem Rel.unquiet {σ : L2.St} {ρ : En} {F H : Hp} {δ : Dice} (R : Rel C.quiet σ ρ F H δ) : Rel C σ ρ F H δ := ⟨R.hs, R.st, R.h0, R.len, R.sl, R.ap, R.xl⟩
def EvTs (C : Ct) (tt : TT) (f : EB) : Prop := EvT C tt f
theorem evts_nil : EvT C tYes bYes := fun σ ρ F H δ Q r R e p => by
  cases (Option.some.inj e).symm
  exact p.val R.hs
/-- a quiet test, value -/
theorem EvT.quiet {tt : TT} {ex : EB} {σ : L2.St} {ρ : En} {F H : Hp} {δ δ1 : Dice} {b : Bool} {Q : Bool → Hp → Prop} (h : EvT C.quiet tt ex) (R : Rel C σ ρ F H δ) (e : ex ρ δ = some (.ok b, δ1))
    (hk : ∀ F1 H1, Rel C σ ρ F1 H1 δ1 → Step C.G C.aD F H F1 H1 → Q b H1) : tt σ H Q := h σ ρ F H δ Q _ R.quiet e fun F' H' a s => hk F' H' (R.step a s) s
theorem EvE.quiet {tt : TE} {ex : EX} {σ : L2.St} {ρ : En} {F H : Hp} {δ δ1 : Dice} {b : D} {Q : VK} (h : EvE C.quiet tt ex) (R : Rel C σ ρ F H δ) (e : ex ρ δ = some (.ok b, δ1))
    (hk : ∀ v F1 H1, Rel C σ ρ F1 H1 δ1 → Step C.G C.aD F H F1 H1 → Rp F1 v b → Q v H1) : tt σ H Q := h σ ρ F H δ Q _ R.quiet e fun v F' H' a s c => hk v F' H' (R.step a s) s c
theorem compL_len {tg : Tg} {conds : EB} {elt : EX} {vs : List Nat} : ∀ {ds : List D} {ρ : En} {δ δ' : Dice} {ys : List D}, compL tg conds elt vs ds ρ δ = some (.ok ys, δ') → ys.length ≤ ds.length
  | [], ρ, δ, δ', ys, e => by cases (Option.some.inj e).symm; exact Nat.le_refl _
  | d :: ds, ρ, δ, δ', ys, e => by
    unfold compL at e
    rcases M.bind_some e with ⟨ρ1, δ1, e1, e2⟩ | ⟨_, _, _, q⟩
    · rcases M.bind_some e2 with ⟨c, δ2, e3, e4⟩ | ⟨_, _, _, q⟩
      · cases c with
        | true =>
          rw [if_pos rfl] at e4
          rcases M.bind_some e4 with ⟨y, δ3, e5, e6⟩ | ⟨_, _, _, q⟩
          · rcases M.bind_some e6 with ⟨zs, δ4, e7, e8⟩ | ⟨_, _, _, q⟩
            · cases (Option.some.inj e8)
              have := compL_len e7
              simpa using this
            · cases q
          · cases q
        | false =>
          rw [if_neg Bool.false_ne_true] at e4
          have := compL_len e4
          exact Nat.le_succ_of_le this
      · cases q
    · cases q
theorem ev_lc {wi : TI} {it : EL} {g : TG} {tg : Tg} {tt : TT} {conds : EB} {te : TE} {elt : EX} {vs : List Nat} (hi : EvI C wi it) (hg : EvG C g tg) (hv : ∀ i ∈ slotsT tg, i ∈ vs) (ht : EvT C.quiet tt conds) (he : EvE C.quiet te elt) :
    EvE C (tLc wi g tt te vs) (eComp tg it conds elt vs) := fun σ ρ F H δ Q r R e p =>
  hi.then R e p.err fun ds δ1 J F1 H1 e1 R1 s1 Y => by
    intro Dn hD
    -- how the whole ends
    obtain ⟨ys, δ2, e2, hz, rfl⟩ : ∃ ys δ2, compL tg conds elt vs ds ρ δ1 = some (.ok ys, δ2) ∧ ys.length ≤ sizeLine ∧ r = (.ok (.list ys), δ2) := by
      rcases M.bind_some e1 with ⟨ys, δ2, e2, e3⟩ | ⟨nm, δ2, e2, e3⟩
      · split at e3
        · rename_i hz; exact ⟨ys, δ2, e2, hz, (Option.some.inj e3).symm⟩
        · cases e3
      · exfalso
        have key : ∀ (ds : List D) (δ : Dice), compL tg conds elt vs ds ρ δ ≠ some (.error nm, δ2) := by
          intro ds
          induction ds with
          | nil => intro δ z; cases z
          | cons d ds ih =>
            intro δ z
            unfold compL at z
            rcases M.bind_some z with ⟨ρ1, δ3, e4, e5⟩ | ⟨_, _, e4, e5⟩
            · rcases M.bind_some e5 with ⟨c, δ4, e6, e7⟩ | ⟨_, _, e6, e7⟩
              · cases c with
                | true =>
                  rw [if_pos rfl] at e7
                  rcases M.bind_some e7 with ⟨y, δ5, e8, e9⟩ | ⟨_, _, e8, e9⟩
                  · rcases M.bind_some e9 with ⟨zs, δ6, e10, e11⟩ | ⟨_, _, e10, e11⟩
                    · cases e11
                    · cases e11; exact ih _ e10
                  · obtain ⟨_, _, _, q⟩ := M.noErr_some e8
                    cases q
                | false =>
                  rw [if_neg Bool.false_ne_true] at e7
                  exact ih _ e7
              · obtain ⟨_, _, _, q⟩ := M.noErr_some e6
                cases q
            · obtain ⟨_, _, q⟩ := M.lift_some e4
              cases q
        exact key ds δ1 e2
    have p : ValP C F H (.list ys) δ2 Q := p
    have n1 : Dn ≠ C.aD := fun z => R1.hs.dne (by rw [← z]; exact hD)
    have n2 : Dn ∉ C.G.tabs := fun z => R1.hs.tne z hD
    have fD : F1 Dn = none := R1.hs.fne hD
    -- the invariant: what is made so far (acc), what the rest gives
    refine ⟨fun i m H' => m = ds.length - i ∧ i ≤ ds.length ∧ ∃ F' δ' acc zs rest, Hs C.G C.aD F' H' δ' ∧ Step C.G C.aD F1 H1 F' H' ∧ H' Dn = some (.lst zs) ∧ F' Dn = none ∧ RpA F' zs acc ∧ compL tg conds elt vs (ds.drop i) ρ δ' = some (.ok rest, δ2) ∧ acc ++ rest = ys,
      ⟨ds.length, by simp, Nat.zero_le _, F1, δ1, [], [], ys, R1.hs.own fD n1 n2 (nc_none hD), Step.own Step.refl hD, upd_same, fD, .nil, by rw [List.drop_zero]; exact e2, rfl⟩, ?_⟩
    rintro i m H' ⟨rfl, hi', F', δ', acc, zs, rest, hs, st, hD', fD', ra, ec, ea⟩
    by_cases hlt : i < ds.length
    · obtain ⟨go, yl⟩ := (Y i F' H' δ' st.ex hs).1 hlt
      refine .inr ⟨go, fun H'' => i + 1 ≤ ds.length ∧ ∃ F' δ' acc zs rest, Hs C.G C.aD F' H'' δ' ∧ Step C.G C.aD F1 H1 F' H'' ∧ H'' Dn = some (.lst zs) ∧ F' Dn = none ∧ RpA F' zs acc ∧ compL tg conds elt vs (ds.drop (i + 1)) ρ δ' = some (.ok rest, δ2) ∧ acc ++ rest = ys,
        fun H'' hN => ⟨ds.length - (i + 1), by omega, rfl, hN.1, hN.2⟩, fun x H2 hy => ?_⟩
      obtain ⟨d, F2, ed, hs2, st2, rx⟩ := yl x H2 hy
      have edr : ds.drop i = d :: ds.drop (i + 1) := by
        obtain ⟨hl, e⟩ := List.getElem?_eq_some_iff.mp ed
        rw [← e]
        exact List.drop_eq_getElem_cons hl
      rw [edr] at ec
      unfold compL at ec
      rcases M.bind_some ec with ⟨ρ1, δ3, e4, e5⟩ | ⟨_, _, e4, e5⟩
      · obtain ⟨ρ1', e4', e4''⟩ := M.lift_some e4
        cases e4''
        have R2 : Rel C σ ρ F2 H2 δ' := R1.step hs2 (st.trans st2)
        have d2 : H2 Dn = some (.lst zs) := st2.keep _ _ hD' n1 n2
        have f2 : F2 Dn = none := st2.new _ _ hD' n1 n2 fD' (fun xs z => nomatch z)
        refine hg x d (wipe σ vs) (clr ρ vs) ρ1 F2 H2 δ' _ (wipe_clr R2 vs) rx e4' fun σ1 R3 k1 => ?_
        have hw : wipe σ1 vs = wipe σ vs := by
          have h1 : wipe σ1 vs = wipe (wipe σ vs) vs := wipe_eq (R3.len.trans (by
            have a1 := (wipe_clr R2 vs).len
            have a2 : ρ1.length = (clr ρ vs).length := by
              have key : ∀ (t : Tg) (ρ ρ' : En) (d : D), bindT t ρ d = some ρ' → ρ'.length = ρ.length := bindT_len
              exact key _ _ _ _ e4'
            rw [a2, a1])) fun i hi => k1 i fun hm => hi (hv i hm)
          rw [h1]
          exact wipe_eq (wipe_length _ _) fun i hi => wipe_out hi
        refine ⟨hw, ?_⟩
        rcases M.bind_some e5 with ⟨c, δ4, e6, e7⟩ | ⟨_, _, e6, e7⟩
        · obtain ⟨c', δ4', e6', e6''⟩ := M.noErr_some e6
          cases e6''
          refine ht.quiet R3 e6' fun F3 H3 R4 s4 => ?_
          have d3 : H3 Dn = some (.lst zs) := s4.keep _ _ d2 n1 n2
          have f3 : F3 Dn = none := s4.new _ _ d2 n1 n2 f2 (fun xs z => nomatch z)
          have st3 := (st.trans st2).trans s4
          cases c with
          | false =>
            rw [if_neg Bool.false_ne_true] at e7
            refine iteF ⟨hlt, F3, δ4, acc, zs, rest, R4.hs, st3, d3, f3, ra.mono (st2.ex.trans s4.ex), e7, ea⟩
          | true =>
            refine iteT ?_
            rw [if_pos rfl] at e7
            rcases M.bind_some e7 with ⟨y, δ5, e8, e9⟩ | ⟨_, _, e8, e9⟩
            · obtain ⟨y', δ5', e8', e8''⟩ := M.noErr_some e8
              cases e8''
              refine he.quiet R4 e8' fun v F4 H4 R5 s5 rv => ?_
              have d4 : H4 Dn = some (.lst zs) := s5.keep _ _ d3 n1 n2
              have f4 : F4 Dn = none := s5.new _ _ d3 n1 n2 f3 (fun xs z => nomatch z)
              have st4 := st3.trans s5
              rcases M.bind_some e9 with ⟨zs', δ6, e10, e11⟩ | ⟨_, _, e10, e11⟩
              · cases (Option.some.inj e11)
                have la := ra.length
                have lt : zs.length < sizeLine := by
                  have h1 : (acc ++ y :: zs').length = ys.length := by rw [ea]
                  rw [List.length_append, List.length_cons] at h1
                  omega
                refine ⟨zs, d4, lt, hlt, F4, δ5, acc ++ [y], zs ++ [v], zs', R5.hs.own f4 n1 n2 (nc_list d4), Step.own st4 hD, upd_same, f4, (ra.mono (st2.ex.trans (s4.ex.trans s5.ex))).append (.cons rv .nil), e10, ?_⟩
                rw [List.append_assoc]
                exact ea
              · cases e11
            · obtain ⟨_, _, _, q⟩ := M.noErr_some e8
              cases q
        · obtain ⟨_, _, _, q⟩ := M.noErr_some e6
          cases q
      · obtain ⟨_, _, q⟩ := M.lift_some e4
        cases q
    · have e : i = ds.length := by omega
      subst e
      rw [List.drop_length] at ec
      cases (Option.some.inj ec)
      rw [List.append_nil] at ea
      subst ea
      refine .inl ⟨(Y _ F' H' _ st.ex hs).2 (Nat.le_refl _), ?_⟩
      have hs' := hs.freeze (o := .lst zs) hD' n1 n2
      have st' : Step C.G C.aD F1 H1 (upd F' Dn (.lst zs)) H' := st.freeze fD' hD
      refine p _ _ _ hs' (s1.trans st') (.lst upd_same (ra.mono ?_))
      intro b u q
      rw [upd_ne (fun z => by rw [z, fD'] at q; cases q)]
      exact q
end
end Lay

set_option Elab.async false
set_option linter.all false
set_option maxRecDepth 100000
set_option maxHeartbeats 2000000
/-! all(..) of a generator expression; statements; a def by its body -/
namespace Lay
open PySem PySem.Spec PyProof.Rows L2 GX

section
variable {C : Ct}
theorem Hs.tbl {G : Gt} {aD : Addr} {F H : Hp} {δ : Dice} {P : Addr} {ps : Array Value} (h : Hs G aD F H δ) (hP : P ∈ G.tabs) (hl : P ≠ G.lt) (ht : TriplesOk ps.toList) : Hs G aD F (upd H P (.tbl ps)) δ := by
  have np : aD ≠ P := fun z => h.dt (by rw [z]; exact hP)
  refine ⟨fun a u q => ?_, h.dF, by rw [upd_ne np]; exact h.dH, h.tF, fun Q hQ => ?_⟩
  · rw [upd_ne (fun z => by rw [z, h.tF P hP] at q; cases q)]; exact h.sub a u q
  · by_cases e : Q = P
    · subst e; exact ⟨ps, upd_same, ht, fun z => absurd z hl⟩
    · obtain ⟨qs, e1, e2, e3⟩ := h.tH Q hQ
      refine ⟨qs, by rw [upd_ne e]; exact e1, e2, fun z => (e3 z).mono fun c hc => ?_⟩
      obtain ⟨rs, e4, _, _⟩ := h.tH P hP
      rw [upd_ne (fun z => LamX.codeO_ne rs (Option.some.inj (hc.symm.trans (by rw [z]; exact e4))))]
      exact hc
theorem Step.tbl {G : Gt} {aD : Addr} {F H : Hp} {P : Addr} {ps : Array Value} (hP : P ∈ G.tabs) : Step G aD F H F (upd H P (.tbl ps)) := by
  refine ⟨Ext.refl F, fun _ _ _ _ _ h _ => h, fun a o q n1 n2 => by rw [upd_ne (fun z => n2 (by rw [z]; exact hP))]; exact q, fun a h => ?_⟩
  by_cases e : a = P
  · rw [e, upd_same]; exact fun z => nomatch z
  · rw [upd_ne e]; exact h
theorem capt_rel {σ : L2.St} {ρ : En} {F H : Hp} {δ : Dice} (R : Rel C σ ρ F H δ) (cap : List Nat) (n : Nat) : Rel C (capt σ cap n) (captD ρ cap n) F H δ := by
  have at_ : ∀ {i : Nat} {sv : SV}, (captD ρ cap n)[i]? = some (some sv) → ∃ j d, cap[i]? = some j ∧ getD ρ j = some d ∧ sv = .v d := fun {i sv} e => by
    unfold captD at e
    by_cases hi : i < cap.length
    · rw [List.getElem?_append_left (by simpa using hi), List.getElem?_map] at e
      obtain ⟨j, hj, e2⟩ := Option.map_eq_some_iff.mp e
      obtain ⟨d, hd, e3⟩ := Option.map_eq_some_iff.mp e2
      exact ⟨j, d, hj, hd, e3.symm⟩
    · rw [List.getElem?_append_right (by simpa using hi), List.getElem?_replicate] at e
      split at e <;> cases e
  refine ⟨R.hs, R.st, R.h0, by unfold capt captD; simp, fun i sv e => ?_, fun i j ds ds' a e1 e2 => ?_, fun i kvs e => by
    obtain ⟨_, _, _, _, z⟩ := at_ e
    cases z⟩
  · obtain ⟨j, d, hj, hd, rfl⟩ := at_ e
    obtain ⟨v, e1, rv⟩ := R.var hd
    have hi : i < cap.length := (List.getElem?_eq_some_iff.mp hj).1
    refine ⟨v, ?_, rv⟩
    unfold capt
    rw [List.getElem?_append_left (by simpa using hi), List.getElem?_map, hj]
    show some ((σ[j]?).join) = _
    rw [e1]
    rfl
  · obtain ⟨_, _, _, _, z⟩ := at_ e1
    cases z
theorem capt_known {σ : L2.St} {cap : List Nat} {n i : Nat} {v : V} (e : (capt σ cap n)[i]? = some (some v)) : i < cap.length := by
  unfold capt at e
  by_cases hi : i < cap.length
  · exact hi
  · rw [List.getElem?_append_right (by simpa using hi), List.getElem?_replicate] at e
    split at e <;> cases e
theorem ev_all {P : Addr} {wi : TI} {it : EL} {g : TG} {tg : Tg} {te : TE} {elt : EX} {cap : List Nat} {n : Nat} (hP : P ∈ C.G.tabs) (hl : P ≠ C.G.lt) (hi : EvI C wi it) (hg : EvG C g tg) (hv : ∀ i ∈ slotsT tg, cap.length ≤ i) (he : EvE C.quiet te elt) :
    EvE C (tAllG P wi g te cap n) (eAll tg it elt cap n) := fun σ ρ F H δ Q r R e p =>
  hi.then R e p.err fun ds δ1 J F1 H1 e1 R1 s1 Y => by
    obtain ⟨ps, hp, ht, _⟩ := R1.hs.tH P hP
    refine ⟨ps, hp, ht, fun ps' ht' => ?_⟩
    obtain ⟨b, δ2, e2, rfl⟩ : ∃ b δ2, allL tg elt ds (captD ρ cap n) δ1 = some (.ok b, δ2) ∧ r = (.ok (.bool b), δ2) := by
      rcases M.bind_some e1 with ⟨b, δ2, e2, e3⟩ | ⟨nm, δ2, e2, e3⟩
      · exact ⟨b, δ2, e2, (Option.some.inj e3).symm⟩
      · exfalso
        have key : ∀ (ds : List D) (δ : Dice), allL tg elt ds (captD ρ cap n) δ ≠ some (.error nm, δ2) := by
          intro ds
          induction ds with
          | nil => intro δ z; cases z
          | cons d ds ih =>
            intro δ z
            unfold allL at z
            rcases M.bind_some z with ⟨ρ1, δ3, e4, e5⟩ | ⟨_, _, e4, e5⟩
            · rcases M.bind_some e5 with ⟨c, δ4, e6, e7⟩ | ⟨_, _, e6, e7⟩
              · cases c with
                | true => rw [if_pos rfl] at e7; exact ih _ e7
                | false => rw [if_neg Bool.false_ne_true] at e7; cases e7
              · rcases M.bind_some e6 with ⟨y, δ5, e8, e9⟩ | ⟨_, _, e8, e9⟩
                · obtain ⟨_, _, q⟩ := toB_some e9
                  cases q
                · obtain ⟨_, _, _, q⟩ := M.noErr_some e8
                  cases q
            · obtain ⟨_, _, q⟩ := M.lift_some e4
              cases q
        exact key ds δ1 e2
    have p : ValP C F H (.bool b) δ2 Q := p
    refine ⟨fun i m H' => m = ds.length - i ∧ i ≤ ds.length ∧ ∃ F' δ', Hs C.G C.aD F' H' δ' ∧ Step C.G C.aD F1 H1 F' H' ∧ allL tg elt (ds.drop i) (captD ρ cap n) δ' = some (.ok b, δ2),
      ⟨ds.length, by simp, Nat.zero_le _, F1, δ1, R1.hs.tbl hP hl ht', Step.tbl hP, by rw [List.drop_zero]; exact e2⟩, ?_⟩
    rintro i m H' ⟨rfl, hi', F', δ', hs, st, ec⟩
    by_cases hlt : i < ds.length
    · obtain ⟨go, yl⟩ := (Y i F' H' δ' st.ex hs).1 hlt
      refine .inr ⟨go, fun H'' => i + 1 ≤ ds.length ∧ ∃ F' δ', Hs C.G C.aD F' H'' δ' ∧ Step C.G C.aD F1 H1 F' H'' ∧ allL tg elt (ds.drop (i + 1)) (captD ρ cap n) δ' = some (.ok b, δ2),
        fun H'' hN => ⟨ds.length - (i + 1), by omega, rfl, hN.1, hN.2⟩, fun x H2 hy => ?_⟩
      obtain ⟨d, F2, ed, hs2, st2, rx⟩ := yl x H2 hy
      have edr : ds.drop i = d :: ds.drop (i + 1) := by
        obtain ⟨hl, e⟩ := List.getElem?_eq_some_iff.mp ed
        rw [← e]
        exact List.drop_eq_getElem_cons hl
      rw [edr] at ec
      unfold allL at ec
      rcases M.bind_some ec with ⟨ρ1, δ3, e4, e5⟩ | ⟨_, _, e4, e5⟩
      · obtain ⟨ρ1', e4', e4''⟩ := M.lift_some e4
        cases e4''
        have R2 : Rel C σ ρ F2 H2 δ' := R1.step hs2 (st.trans st2)
        refine hg x d (capt σ cap n) (captD ρ cap n) ρ1 F2 H2 δ' _ (capt_rel R2 cap n) rx e4' fun σ1 R3 k1 => ⟨fun j v ej => ?_, ?_⟩
        · have hj := capt_known ej
          rw [k1 j (fun hm => absurd (hv j hm) (Nat.not_le.mpr hj))]
          exact ej
        · rcases M.bind_some e5 with ⟨c, δ4, e6, e7⟩ | ⟨_, _, e6, e7⟩
          · rcases M.bind_some e6 with ⟨y, δ5, e8, e9⟩ | ⟨_, _, e8, e9⟩
            · obtain ⟨y', δ5', e8', e8''⟩ := M.noErr_some e8
              cases e8''
              obtain ⟨c', ey, e9'⟩ := toB_some e9
              cases e9'
              subst ey
              refine he.quiet R3 e8' fun v F4 H4 R5 s5 rv => ⟨c, rp_bool rv, ?_⟩
              have st4 := (st.trans st2).trans s5
              cases c with
              | true =>
                rw [if_pos rfl] at e7
                exact iteT ⟨hlt, F4, δ4, R5.hs, st4, e7⟩
              | false =>
                rw [if_neg Bool.false_ne_true] at e7
                cases (Option.some.inj e7)
                exact iteF (p _ _ _ R5.hs (s1.trans st4) (.bl false))
            · cases e9
          · rcases M.bind_some e6 with ⟨y, δ5, e8, e9⟩ | ⟨_, _, e8, e9⟩
            · obtain ⟨_, _, q⟩ := toB_some e9
              cases q
            · obtain ⟨_, _, _, q⟩ := M.noErr_some e8
              cases q
      · obtain ⟨_, _, q⟩ := M.lift_some e4
        cases q
    · have e : i = ds.length := by omega
      subst e
      rw [List.drop_length] at ec
      cases (Option.some.inj ec)
      exact .inl ⟨(Y _ F' H' _ st.ex hs).2 (Nat.le_refl _), p _ _ _ hs (s1.trans st) (.bl true)⟩

/-! ### statements -/
variable {ta tb te : TE} {fa fb : EX} {t u : TS} {f h : ST} {tc : TT} {gc : EB}
theorem PostS.nx {F F' H' : Hp} {D' : Ends} {ρ : En} {δ : Dice} {σ : L2.St} (p : PostS C F D' (.ok (.nx ρ), δ)) (R : Rel C σ ρ F' H' δ) (x : Ext F F') : D'.nx σ H' := p σ F' H' R x
theorem evs_next : EvS C tNext sNop := fun D' σ ρ F H δ r R e p => by
  cases (Option.some.inj e).symm
  exact p.nx R (Ext.refl F)
theorem evs_seq (h1 : EvS C t f) (h2 : EvS C u h) : EvS C (tSeq t u) (sSeq f h) := fun D' σ ρ F H δ r R e p => by
  rcases M.bind_some e with ⟨fl, δ1, e1, e2⟩ | ⟨nm, δ1, e1, e2⟩
  · refine h1 _ σ ρ F H δ _ R e1 ?_
    cases fl with
    | nx ρ' => exact fun σ' F' H' R' x => h2 D' σ' ρ' F' H' δ1 r R' e2 (p.mono x)
    | rt d => cases (Option.some.inj e2).symm; exact p
    | bk ρ' => cases (Option.some.inj e2).symm; exact p
    | ct ρ' => cases (Option.some.inj e2).symm; exact p
  · refine h1 _ σ ρ F H δ _ R e1 ?_
    subst e2
    exact p
theorem evs_frz (i : Nat) (h1 : EvS C t f) : EvS C t (sFrz i f) := fun D' σ ρ F H δ r R e p => by
  obtain ⟨F', x, R'⟩ := R.frz i
  exact h1 D' σ _ F' H δ r R' e (p.mono x)
theorem evs_clr (vs : List Nat) (h1 : EvS C t f) : EvS C t (sClr vs f) := fun D' σ ρ F H δ r R e p => h1 D' σ _ F H δ r (R.clr vs) e p
theorem evs_set {i : Nat} (ha : EvE C ta fa) : EvS C (tAsg ta (gName i)) (sSet i fa) := fun D' σ ρ F H δ r R e p =>
  ha.then R e p.err fun d δ1 v F1 H1 e1 R1 s1 rp => by
    split at e1
    · cases (Option.some.inj e1).symm
      exact p.nx (R1.setV rp) s1.ex
    · cases e1
theorem evs_asg {g : TG} {tg : Tg} (ha : EvE C ta fa) (hg : EvG C g tg) : EvS C (tAsg ta g) (sAsg tg fa) := fun D' σ ρ F H δ r R e p =>
  ha.then R e p.err fun d δ1 v F1 H1 e1 R1 s1 rp => by
    rcases M.bind_some e1 with ⟨ρ', δ2, e2, e3⟩ | ⟨nm, δ2, e2, e3⟩
    · obtain ⟨ρ2, e4, e5⟩ := M.lift_some e2
      cases e5
      cases (Option.some.inj e3).symm
      exact hg v d σ ρ ρ' F1 H1 δ1 _ R1 rp e4 fun σ' R' _ => p.nx R' s1.ex
    · obtain ⟨_, _, q⟩ := M.lift_some e2
      cases q
/-- x = [..], x a list of the frame's own -/
theorem evs_own {la : TA} {gl : EL} {i : Nat} (hl : EvA C la gl) : EvS C (tAsg (tLst la) (gName i)) (sOwn i gl) := fun D' σ ρ F H δ r R e p =>
  hl.then R e p.err fun ds δ1 vs F1 H1 e1 R1 s1 rp => by
    split at e1
    · rename_i hz
      cases (Option.some.inj e1).symm
      refine ⟨by rw [rp.length]; exact hz.1, fun q nq => ?_⟩
      have n1 : q ≠ C.aD := fun z => R1.hs.dne (by rw [← z]; exact nq)
      have n2 : q ∉ C.G.tabs := fun z => R1.hs.tne z nq
      have n0 : C.H0 q = none := by
        cases z : C.H0 q with
        | none => rfl
        | some o => exact absurd nq (R1.st.dom q (by rw [z]; exact fun z => nomatch z))
      have fq := R1.hs.fne nq
      have R2 : Rel C σ ρ F1 (upd H1 q (.lst vs)) δ1 := by
        refine R1.step (R1.hs.own fq n1 n2 (nc_none nq)) ⟨Ext.refl _, fun _ _ _ _ _ h _ => h, fun a o z _ _ => by rw [upd_ne (ne_of_none z nq)]; exact z, fun a z => ?_⟩
        by_cases ea : a = q
        · rw [ea, upd_same]; exact fun z => nomatch z
        · rw [upd_ne ea]; exact z
      refine p.nx (R2.setO upd_same fq n0 rp (fun j es hj ej eq => ?_) hz.2.2) s1.ex
      obtain ⟨v, e2, ok⟩ := R1.sl j _ ej
      obtain ⟨a, ws, rfl, h1, _⟩ := ok
      rw [e2] at eq
      cases eq
      rw [nq] at h1; cases h1
    · cases e1
/-- the own list at i gets other items -/
theorem Rel.writeO {σ : L2.St} {ρ : En} {F H : Hp} {δ : Dice} (R : Rel C σ ρ F H δ) {i : Nat} {a : Addr} {ds ds' : List D} {vs' : List V} (hi : ρ[i]? = some (some (.own ds))) (ha : σ[i]? = some (some (.ref a))) (f : F a = none) (n0 : C.H0 a = none) (n1 : a ≠ C.aD) (n2 : a ∉ C.G.tabs)
    {vs : List V} (hd : H a = some (.lst vs)) (r : RpA F vs' ds') : Rel C σ (Lay.setO ρ i ds') F (upd H a (.lst vs')) δ := by
  have hil : i < ρ.length := (List.getElem?_eq_some_iff.mp hi).1
  have at_ : ∀ {j : Nat} {sv : SV}, (Lay.setO ρ i ds')[j]? = some (some sv) → (j = i ∧ sv = .own ds') ∨ (j ≠ i ∧ ρ[j]? = some (some sv)) := fun {j sv} e => by
    unfold Lay.setO at e
    by_cases hj : i = j
    · subst hj
      rw [List.getElem?_set_self hil] at e; cases e; exact .inl ⟨rfl, rfl⟩
    · rw [List.getElem?_set_ne hj] at e
      exact .inr ⟨fun z => hj z.symm, e⟩
  refine ⟨R.hs.own f n1 n2 (nc_list hd), Step.own R.st n0, R.h0, by unfold Lay.setO; rw [List.length_set]; exact R.len, fun j sv e => ?_, fun j k es es' b e1 e2 e3 e4 => ?_, fun j kvs e => by
    rcases at_ e with ⟨_, z⟩ | ⟨_, e⟩
    · cases z
    · exact (R.no_own hi e).elim⟩
  · rcases at_ e with ⟨rfl, rfl⟩ | ⟨hj, e⟩
    · exact ⟨_, ha, a, vs', rfl, upd_same, f, n0, r⟩
    · obtain ⟨v, e1, ok⟩ := R.sl j sv e
      refine ⟨v, e1, ?_⟩
      cases sv with
      | v d => exact ok
      | dice => exact ok
      | own es =>
        obtain ⟨b, ws, rfl, g1, g2, g3, g4⟩ := ok
        have nb : b ≠ a := fun z => hj (R.ap j i es ds a e hi (by rw [e1, z]) ha)
        exact ⟨b, ws, rfl, by rw [upd_ne nb]; exact g1, g2, g3, g4⟩
      | dct ks =>
        obtain ⟨b, rfl, g1, g2, g3⟩ := ok
        have nb : b ≠ a := fun z => by rw [z, hd] at g1; cases g1
        exact ⟨b, rfl, by rw [upd_ne nb]; exact g1, g2, g3⟩
      | dT kvs =>
        obtain ⟨b, ws, rfl, g1, g2, g3, g4⟩ := ok
        have nb : b ≠ a := fun z => by rw [z, hd] at g1; cases g1
        exact ⟨b, ws, rfl, by rw [upd_ne nb]; exact g1, g2, g3, g4⟩
      | dL kvs => exact (R.no_own hi e).elim
  · have o1 : ∃ es, ρ[j]? = some (some (.own es)) := by
      rcases at_ e1 with ⟨rfl, _⟩ | ⟨_, q⟩
      · exact ⟨_, hi⟩
      · exact ⟨_, q⟩
    have o2 : ∃ es, ρ[k]? = some (some (.own es)) := by
      rcases at_ e2 with ⟨rfl, _⟩ | ⟨_, q⟩
      · exact ⟨_, hi⟩
      · exact ⟨_, q⟩
    obtain ⟨x1, q1⟩ := o1
    obtain ⟨x2, q2⟩ := o2
    exact R.ap j k x1 x2 b q1 q2 e3 e4
/-- x.append(e) -/
theorem evs_app {K : PySem.W.Frag} {i : Nat} (ha : EvE C ta fa) : EvS C (tDrop (tBM K "list" rAppend (tVar i) (tCons ta tNil))) (sApp i fa) := fun D' σ ρ F H δ r R e p => by
  unfold sApp at e
  cases q : getO ρ i with
  | none => rw [q] at e; cases e
  | some ds =>
    rw [q] at e
    obtain ⟨a, vs, h1, h2, h3, h4, h5, h6, h7, h8⟩ := R.own q
    refine ⟨_, h1, .inl ⟨rfl, _, SqL.of h2⟩, ?_⟩
    refine ha.then R e p.err fun d δ1 v F1 H1 e1 R1 s1 rp => ?_
    split at e1
    · rename_i hz
      cases (Option.some.inj e1).symm
      have h2' := s1.keep a _ h2 h6 h7
      have f' := s1.new a _ h2 h6 h7 h3 (fun xs z => nomatch z)
      have r5 := h5.mono s1.ex
      exact ⟨a, vs, v, rfl, rfl, h2', by rw [h5.length]; exact hz, p.nx (R1.writeO h8 h1 f' h4 h6 h7 h2' (r5.append (.cons rp .nil))) s1.ex⟩
    · cases e1
/-- x.extend(e) -/
theorem evs_ext {K : PySem.W.Frag} {i : Nat} (ha : EvE C ta fa) : EvS C (tDrop (tBM K "list" rExtend (tVar i) (tCons ta tNil))) (sExt i fa) := fun D' σ ρ F H δ r R e p => by
  unfold sExt at e
  cases q : getO ρ i with
  | none => rw [q] at e; cases e
  | some ds =>
    rw [q] at e
    obtain ⟨a, vs, h1, h2, h3, h4, h5, h6, h7, h8⟩ := R.own q
    refine ⟨_, h1, .inl ⟨rfl, _, SqL.of h2⟩, ?_⟩
    refine ha.then R e p.err fun d δ1 v F1 H1 e1 R1 s1 rp => ?_
    cases rp with
    | @lst b ws es g1 g2 =>
      dsimp only at e1
      split at e1
      · rename_i hz
        cases (Option.some.inj e1).symm
        have h2' := s1.keep a _ h2 h6 h7
        have f' := s1.new a _ h2 h6 h7 h3 (fun xs z => nomatch z)
        have r5 := h5.mono s1.ex
        exact ⟨a, b, vs, ws, rfl, rfl, h2', R1.hs.sub _ _ g1, by rw [h5.length, g2.length]; exact hz, p.nx (R1.writeO h8 h1 f' h4 h6 h7 h2' (r5.append g2)) s1.ex⟩
      · cases e1
    | _ => cases e1
/-- x[k] = e -/
theorem evs_setIx {i : Nat} (hb : EvE C tb fb) (ha : EvE C ta fa) : EvS C (tAsg ta (gSub (tVar i) tb rSetL)) (sSetIx i fb fa) := fun D' σ ρ F H δ r R e p => by
  unfold sSetIx at e
  cases q : getO ρ i with
  | none => rw [q] at e; cases e
  | some ds =>
    rw [q] at e
    obtain ⟨a, vs, h1, h2, h3, h4, h5, h6, h7, h8⟩ := R.own q
    refine ha.then R e p.err fun d δ1 v F1 H1 e1 R1 s1 rp => ⟨_, h1, ?_⟩
    refine hb.then R1 e1 p.err fun d2 δ2 v2 F2 H2 e2 R2 s2 rp2 => ?_
    have st := s1.trans s2
    have h2' := st.keep a _ h2 h6 h7
    have f' := st.new a _ h2 h6 h7 h3 (fun xs z => nomatch z)
    have r5 := h5.mono st.ex
    cases rp2 with
    | int z =>
      dsimp only at e2
      cases hj : ixN ds.length z with
      | none => rw [hj] at e2; cases e2
      | some j =>
        rw [hj] at e2
        cases (Option.some.inj e2).symm
        exact ⟨a, vs, z, j, rfl, rfl, h2', by rw [h5.length]; exact hj, p.nx (R2.writeO h8 h1 f' h4 h6 h7 h2' (r5.set (rp.mono s2.ex) j)) st.ex⟩
    | _ => cases e2
theorem evs_par {i j : Nat} (ha : EvE C ta fa) (hb : EvE C tb fb) : EvS C (tPar i j (tCons ta (tCons tb tNil))) (sPar i j fa fb) := fun D' σ ρ F H δ r R e p =>
  ha.then R e p.err fun d δ1 v F1 H1 e1 R1 s1 rp => hb.then R1 e1 p.err fun d2 δ2 v2 F2 H2 e2 R2 s2 rp2 => by
    split at e2
    · cases (Option.some.inj e2).symm
      exact ⟨v, v2, rfl, p.nx ((R2.setV (rp.mono s2.ex)).setV rp2) (s1.trans s2).ex⟩
    · cases e2
/-- i, j, l = a, b, c -/
def sPar3 (i j l : Nat) (a b c : EX) : ST := fun ρ => M.bind (a ρ) fun x => M.bind (b ρ) fun y => M.bind (c ρ) fun z => if i < ρ.length ∧ j < ρ.length ∧ l < ρ.length then M.pure (.nx (setV (setV (setV ρ i x) j y) l z)) else M.stuck
theorem evs_par3 {i j l : Nat} {tc : TE} {fc : EX} (ha : EvE C ta fa) (hb : EvE C tb fb) (hc : EvE C tc fc) : EvS C (tPar3 i j l (tCons ta (tCons tb (tCons tc tNil)))) (sPar3 i j l fa fb fc) := fun D' σ ρ F H δ r R e p =>
  ha.then R e p.err fun d δ1 v F1 H1 e1 R1 s1 rp => hb.then R1 e1 p.err fun d2 δ2 v2 F2 H2 e2 R2 s2 rp2 => hc.then R2 e2 p.err fun d3 δ3 v3 F3 H3 e3 R3 s3 rp3 => by
    split at e3
    · cases (Option.some.inj e3).symm
      exact ⟨v, v2, v3, rfl, p.nx (((R3.setV ((rp.mono s2.ex).mono s3.ex)).setV (rp2.mono s3.ex)).setV rp3) ((s1.trans s2).trans s3).ex⟩
    · cases e3
/-- an own list laid: the state behind it -/
theorem Rel.newO {σ : L2.St} {ρ : En} {F H : Hp} {δ : Dice} (R : Rel C σ ρ F H δ) {i : Nat} {q : Addr} {vs : List V} {ds : List D} (nq : H q = none) (r : RpA F vs ds) (hL : noL ρ = true) : Rel C (σ.set i (some (.ref q))) (Lay.setO ρ i ds) F (upd H q (.lst vs)) δ := by
  have n1 : q ≠ C.aD := fun z => R.hs.dne (by rw [← z]; exact nq)
  have n2 : q ∉ C.G.tabs := fun z => R.hs.tne z nq
  have n0 : C.H0 q = none := by
    cases z : C.H0 q with
    | none => rfl
    | some o => exact absurd nq (R.st.dom q (by rw [z]; exact fun z => nomatch z))
  have fq := R.hs.fne nq
  have R2 : Rel C σ ρ F (upd H q (.lst vs)) δ := by
    refine R.step (R.hs.own fq n1 n2 (nc_none nq)) ⟨Ext.refl _, fun _ _ _ _ _ h _ => h, fun a o z _ _ => by rw [upd_ne (ne_of_none z nq)]; exact z, fun a z => ?_⟩
    by_cases ea : a = q
    · rw [ea, upd_same]; exact fun z => nomatch z
    · rw [upd_ne ea]; exact z
  refine R2.setO upd_same fq n0 r (fun j es hj ej eq => ?_) hL
  obtain ⟨v, e2, ok⟩ := R.sl j _ ej
  obtain ⟨a, ws, rfl, h1, _⟩ := ok
  rw [e2] at eq
  cases eq
  rw [nq] at h1; cases h1
/-- an op= e -/
theorem evs_aug {i : Nat} {r2 : R2} {op : D → D → Option D} (hr : Raw2 C r2 op) (ha : EvE C ta fa) : EvS C (tAug i ta r2) (sAug i op fa) := fun D' σ ρ F H δ r R e p => by
  unfold sAug at e
  cases q : getD ρ i with
  | none => rw [q] at e; cases e
  | some d0 =>
    rw [q] at e
    obtain ⟨v0, h1, r0⟩ := R.var q
    refine ⟨v0, h1, ?_⟩
    refine ha.then R e p.err fun d δ1 v F1 H1 e1 R1 s1 rp => ?_
    rcases M.bind_some e1 with ⟨z, δ2, e2, e3⟩ | ⟨nm, δ2, e2, e3⟩
    · obtain ⟨z', e4, e5⟩ := M.lift_some e2
      cases e5
      cases (Option.some.inj e3).symm
      refine hr F1 H1 δ1 v0 v d0 d z _ R1.hs (r0.mono s1.ex) rp e4 fun w F2 H2 hs2 s2 rw' => ?_
      exact p.nx ((R1.step hs2 s2).setV rw') (s1.trans s2).ex
    · obtain ⟨_, _, q⟩ := M.lift_some e2
      cases q
theorem evs_exp (ha : EvE C ta fa) : EvS C (tDrop ta) (sExp fa) := fun D' σ ρ F H δ r R e p =>
  ha.then R e p.err fun d δ1 v F1 H1 e1 R1 s1 rp => by
    cases (Option.some.inj e1).symm
    exact p.nx R1 s1.ex
theorem evs_if (hc : EvT C tc gc) (h1 : EvS C t f) (h2 : EvS C u h) : EvS C (tIfS tc t u) (sIf gc f h) := fun D' σ ρ F H δ r R e p =>
  hc.then R e p.err fun d δ1 F1 H1 e1 R1 s1 => by
    cases d with
    | true => exact iteT (h1 D' σ ρ F1 H1 δ1 r R1 e1 (p.mono s1.ex))
    | false => exact iteF (h2 D' σ ρ F1 H1 δ1 r R1 e1 (p.mono s1.ex))
theorem evs_ret (ha : EvE C ta fa) : EvS C (tRet ta) (sRet fa) := fun D' σ ρ F H δ r R e p =>
  ha.then R e p.err fun d δ1 v F1 H1 e1 R1 s1 rp => by
    cases (Option.some.inj e1).symm
    exact p v F1 H1 R1.hs R1.st rp
theorem evs_retN : EvS C tRetN sRetN := fun D' σ ρ F H δ r R e p => by
  cases (Option.some.inj e).symm
  exact p .non F H R.hs R.st .non
theorem evs_brk : EvS C tBreak sBrk := fun D' σ ρ F H δ r R e p => by
  cases (Option.some.inj e).symm
  exact p σ F H R (Ext.refl F)
theorem evs_cnt : EvS C tCont sCnt := fun D' σ ρ F H δ r R e p => by
  cases (Option.some.inj e).symm
  exact p σ F H R (Ext.refl F)
theorem evs_for {wi : TI} {it : EL} {g : TG} {tg : Tg} {vs : List Nat} (hi : EvI C wi it) (hg : EvG C g tg) (hb : EvS C t f) : EvS C (tFor wi g t) (sFor tg it vs f) := fun D' σ ρ F H δ r R e p =>
  hi.then R e p.err fun ds δ1 J F1 H1 e1 R1 s1 Y => by
    have p1 := p.mono s1.ex
    refine ⟨fun i m σ' H' => m = ds.length - i ∧ i ≤ ds.length ∧ ∃ ρ' F' δ', Rel C σ' ρ' F' H' δ' ∧ Ext F1 F' ∧ forL tg vs f (ds.drop i) ρ' δ' = some r,
      ⟨ds.length, by simp, Nat.zero_le _, ρ, F1, δ1, R1, Ext.refl F1, by rw [List.drop_zero]; exact e1⟩, ?_⟩
    rintro i m σ' H' ⟨rfl, hi', ρ', F', δ', R', x', ec⟩
    by_cases hlt : i < ds.length
    · obtain ⟨go, yl⟩ := (Y i F' H' δ' x' R'.hs).1 hlt
      refine .inr ⟨go, fun σ'' H'' => i + 1 ≤ ds.length ∧ ∃ ρ' F' δ', Rel C σ'' ρ' F' H'' δ' ∧ Ext F1 F' ∧ forL tg vs f (ds.drop (i + 1)) ρ' δ' = some r,
        fun σ'' H'' hN => ⟨ds.length - (i + 1), by omega, rfl, hN.1, hN.2⟩, fun y H2 hy => ?_⟩
      obtain ⟨d, F2, ed, hs2, st2, ry⟩ := yl y H2 hy
      have edr : ds.drop i = d :: ds.drop (i + 1) := by
        obtain ⟨hl, e⟩ := List.getElem?_eq_some_iff.mp ed
        rw [← e]
        exact List.drop_eq_getElem_cons hl
      rw [edr] at ec
      unfold forL at ec
      have R2 := R'.step hs2 st2
      rcases M.bind_some ec with ⟨ρ1, δ3, e4, e5⟩ | ⟨_, _, e4, e5⟩
      · obtain ⟨ρ1', e4', e4''⟩ := M.lift_some e4
        cases e4''
        refine hg y d σ' (clr ρ' vs) ρ1 F2 H2 δ' _ (R2.clr vs) ry e4' fun σ1 R3 _ => ?_
        have x2 := x'.trans st2.ex
        rcases M.bind_some e5 with ⟨fl, δ4, e6, e7⟩ | ⟨nm, δ4, e6, e7⟩
        · refine hb _ σ1 ρ1 F2 H2 δ' _ R3 e6 ?_
          cases fl with
          | nx ρ2 => exact fun σ'' F'' H'' R'' x'' => ⟨hlt, ρ2, F'', δ4, R'', x2.trans x'', e7⟩
          | ct ρ2 => exact fun σ'' F'' H'' R'' x'' => ⟨hlt, ρ2, F'', δ4, R'', x2.trans x'', e7⟩
          | bk ρ2 =>
            cases (Option.some.inj e7).symm
            exact fun σ'' F'' H'' R'' x'' => p1.nx (R''.clr vs) (x2.trans x'')
          | rt d' =>
            cases (Option.some.inj e7).symm
            exact p
        · refine hb _ σ1 ρ1 F2 H2 δ' _ R3 e6 ?_
          subst e7
          exact p
      · obtain ⟨_, _, q⟩ := M.lift_some e4
        cases q
    · have e : i = ds.length := by omega
      subst e
      rw [List.drop_length] at ec
      cases (Option.some.inj ec)
      exact .inl ⟨(Y _ F' H' _ x' R'.hs).2 (Nat.le_refl _), p1.nx (R'.clr vs) x'⟩
theorem evs_wh {n : Nat} (hc : EvT C tc gc) (hb : EvS C t f) : EvS C (tWhile tc t) (sWh n gc f) := fun D' σ ρ F H δ r R e p => by
  refine ⟨fun m σ' H' => ∃ ρ' F' δ', Rel C σ' ρ' F' H' δ' ∧ Ext F F' ∧ whL gc f m ρ' δ' = some r, ⟨n, ρ, F, δ, R, Ext.refl F, e⟩, ?_⟩
  rintro m σ' H' ⟨ρ', F', δ', R', x', ec⟩
  cases m with
  | zero => cases ec
  | succ m =>
    unfold whL at ec
    refine hc.then R' ec p.err fun b δ1 F1 H1 e1 R1 s1 => ?_
    have x1 := x'.trans s1.ex
    cases b with
    | false =>
      rw [if_neg Bool.false_ne_true] at e1
      cases (Option.some.inj e1).symm
      exact iteF (p.nx R1 x1)
    | true =>
      rw [if_pos rfl] at e1
      refine iteT ⟨fun σ'' H'' => ∃ ρ' F' δ', Rel C σ'' ρ' F' H'' δ' ∧ Ext F F' ∧ whL gc f m ρ' δ' = some r, fun σ'' H'' hN => ⟨m, Nat.lt_succ_self m, hN⟩, ?_⟩
      rcases M.bind_some e1 with ⟨fl, δ4, e6, e7⟩ | ⟨nm, δ4, e6, e7⟩
      · refine hb _ σ' ρ' F1 H1 δ1 _ R1 e6 ?_
        cases fl with
        | nx ρ2 => exact fun σ'' F'' H'' R'' x'' => ⟨ρ2, F'', δ4, R'', x1.trans x'', e7⟩
        | ct ρ2 => exact fun σ'' F'' H'' R'' x'' => ⟨ρ2, F'', δ4, R'', x1.trans x'', e7⟩
        | bk ρ2 =>
          cases (Option.some.inj e7).symm
          exact fun σ'' F'' H'' R'' x'' => p.nx R'' (x1.trans x'')
        | rt d' =>
          cases (Option.some.inj e7).symm
          exact p
      · refine hb _ σ' ρ' F1 H1 δ1 _ R1 e6 ?_
        subst e7
        exact p
end
end Lay

set_option Elab.async false
set_option linter.all false
set_option maxRecDepth 100000
set_option maxHeartbeats 4000000
/-! An own exception class over ValueError: its own beginning says super().__init__(text + name); self.name = name -/
namespace Lay
open PySem PySem.Spec PySem.Calls PyProof.Rows L2

section
variable {P : Program} {w : World} {K : PySem.W.Frag} {mg : Str → Option Value} {base : Heap}
/-- what is asked of the beginning -/
def spBI (C : Addr) : Sp := fun vs H Q E => ∃ a nm, vs = [.ref a, .str nm] ∧ H a = some (exo a C none) ∧ nm.length ≤ 1000 ∧ ∀ dx, H dx = none → dx ≠ a → Q .non (upd (upd H dx (exd dx [(("name" : Str), .str nm)])) a (exo a C (some dx)))
/-- what the written part says -/
structure BiOk (K : PySem.W.Frag) (P : Program) (mg : Str → Option Value) (C f cc cda : Addr) : Prop where
  T : OexC K C
  cl : ∃ cd, PySem.W.clsIn K C = some cd
  sup : PySem.W.ks_superIn K C C "__init__" = some (some (.builtin "ValueError.__init__"))
  ve : PySem.W.subIn K (.ref C) (.type "ValueError") = some true
  own : PySem.W.mroIn K C (.ref C) = some true
  ini : PySem.W.excInitIn K C [.type "ValueError", .type "Exception", .type "BaseException", .type "object"] "ValueError.__new__" = true
  opq : PySem.W.nsIn K cStatics "thirdparty.any" = some none
  nof : PySem.W.findIn K (.ref C) "name" = some none
  cell : ∃ cl cld csl, K.lookup cc = some ⟨cl, cld, .cell (some (.ref C)), csl⟩
  code : ∃ ccl cdd vs ccs file tf, K.lookup cda = some ⟨ccl, cdd, .fields vs, ccs⟩ ∧ vs[2]? = some (.str file tf) ∧ ((P.main.file : Str) == file) = true
  top : (P.main.scope.names.lookup ("super" : Str)).isSome = false
  sg : mg "super" = none
abbrev biSc : Scope := { kind := .function, names := [("self", .local), ("name", .local), ("__class__", .free), ("super", .globalImplicit)], isGenerator := false, isCoroutine := false, more := [] }
theorem str_len (x y : Str) : (x ++ y).length = x.length + y.length := by
  first | exact Str.length_append x y | simp | rfl
abbrev biCall (tx : Str) (j : Nat) (p0 p1 p2 p3 p4 p5 p6 : Pos) : Expr := .Call (.Attribute (.Call (.Name "super" p0) [] [] p1) "__init__" p2) [.BinOp (.Constant (.str tx) j p3) .Add (.Name "name" p4) p5] [] p6
abbrev biBody (tx : Str) (j : Nat) (p0 p1 p2 p3 p4 p5 p6 p7 p8 p9 p10 p11 : Pos) : List Stmt := [.Expr (biCall tx j p0 p1 p2 p3 p4 p5 p6) p7, .Assign [.Attribute (.Name "self" p8) "name" p9] (.Name "name" p10) p11]
theorem bi_fn {CX : CXT} {k : Nat} {C f cc cda : Addr} {params : Arguments} {dV kV doc pm ct oc : Value} {an od : Option Addr} {osl : Array (Option Value)} {qual : Str} {ar : Arg} {j : Nat} {tx : Str}
    {p0 p1 p2 p3 p4 p5 p6 p7 p8 p9 p10 p11 : Pos} (B : BiOk K P mg C f cc cda) (htx : tx.length ≤ 100) (hp : (params.posonlyargs ++ params.args).head? = some ar) (har : ar.arg = "self") (hcd : PySem.W.codeIn K (.ref cda) qual = true)
    (pl : Addr → Sem Bool)
    (he : ∀ L : Addr, eval (biCall tx j p0 p1 p2 p3 p4 p5 p6) (PySem.W.ksEnv qual biSc L f (.ref cda) cc) = (do
      let ov ← attributeBase (.Call (.Name "super" p0) [] [] p1) "__init__" (PySem.W.ksEnv qual biSc L f (.ref cda) cc) (eval (.Call (.Name "super" p0) [] [] p1) (PySem.W.ksEnv qual biSc L f (.ref cda) cc))
      standAt p2.atName
      let (g, first) ← holding [ov] (getMethod ov "__init__" (pl L))
      callWith p6 g first (backTo p6 (starEach [.BinOp (.Constant (.str tx) j p3) .Add (.Name "name" p4) p5] (PySem.W.ksEnv qual biSc L f (.ref cda) cc))) []))
    (hs1 : ∀ L : Addr, swapsWith (biCall tx j p0 p1 p2 p3 p4 p5 p6) none p7.line (PySem.W.ksEnv qual biSc L f (.ref cda) cc) = pure false)
    (hs2 : ∀ L : Addr, swapsWith (.Name "name" p10) (some (.Attribute (.Name "self" p8) "name" p9)) p11.line (PySem.W.ksEnv qual biSc L f (.ref cda) cc) = pure false)
    (lk : K.lookup f = some ⟨oc, od, .func (PySem.W.fnX "__init__" qual params (biBody tx j p0 p1 p2 p3 p4 p5 p6 p7 p8 p9 p10 p11) biSc [("__class__", cc)] dV kV doc pm an (.ref cda) ct), osl⟩) :
    FnOk P w K mg base CX (k + 1) f (PySem.W.fnX "__init__" qual params (biBody tx j p0 p1 p2 p3 p4 p5 p6 p7 p8 p9 p10 p11) biSc [("__class__", cc)] dV kV doc pm an (.ref cda) ct) ["self", "name"] (spBI C) := by
  refine ⟨fun vs H Q E h => by obtain ⟨_, _, rfl, _⟩ := h; rfl, fun A outer s H args us vs Q E hr e0 hb hv hs => ?_⟩
  obtain ⟨a, nm, rfl, ea, hl, hq⟩ := hs
  obtain ⟨t, rfl⟩ : ∃ t, us = [.ref a, .str nm t] := by
    cases hv with
    | @cons _ u1 _ r1 h1 h2 =>
      cases h2 with
      | @cons _ u2 _ r2 h3 h4 =>
        cases h4
        obtain rfl : u1 = Value.ref a := h1
        obtain ⟨t, rfl⟩ := h3
        exact ⟨t, rfl⟩
  have KX : K.In s.heap := e0.mod.kin.keeps fun b o e => (e0.bs b o e).1
  have lim : s.heap.NoLimit := e0.mod.nolimit.keeps fun b o e => (e0.bs b o e).1
  obtain ⟨t1, ho⟩ := exo_at e0.hok ea
  have hcell : ∀ x ∈ biSc.names, x.2 ≠ .cell := by decide
  refine PySem.ks_codeAny_call_defAt (body := _) (binds := [("self", .ref a), ("name", .str nm t)]) hr.depth (KX _ _ lk) rfl lim (PySem.W.codeRec_of KX hcd) rfl hb hcell (fun y hy => ?_) (fun h₁ hns hk₁ => ?_) rfl rfl rfl
  · rcases List.mem_cons.mp hy with rfl | hy
    · rfl
    rcases List.mem_cons.mp hy with rfl | hy
    · rfl
    · cases hy
  have bk1 : ∀ b o, base.get? b = some o → h₁.get? b = some o := fun b o e => hk₁ _ _ (e0.bs b o e).1
  have X1 : K.In h₁ := KX.keeps hk₁
  have ho1 := hk₁ _ _ ho
  have hge : ∀ b, s.heap.objs.size ≤ b → H b = none := fun b hb => e0.hok.fresh hb
  obtain ⟨hp0, g, d, tk, os⟩ := s
  dsimp only at KX lim hns hk₁ ho hge ⊢
  obtain ⟨nmC, qC, N, bs, bm, sn, sub, ab, col, dd, k0, k1, k2, k3, k5, hC, hbm⟩ := B.T.cls
  obtain ⟨cdC, hcdC⟩ := B.cl
  have hcl : PySem.W.clsIn K C = some { name := nmC, bases := bs, mro := .ref C :: bm, ns := N, qualname := qC, hasDict := true, slotNames := sn, subclasses := sub, abstract := ab, collection := col, hasDel := false } := by unfold PySem.W.clsIn; rw [hC] <;> rfl
  obtain ⟨clc, cldc, cslc, hcc⟩ := B.cell
  obtain ⟨ccl, cdd, vsC, ccs, file, tf, hco, hvs, hfile⟩ := B.code
  refine PySem.ks_wpAt_execs_cons (PySem.ks_wpAt_Expr_any (PySem.ks_wpAt_MethodCall (pl := pl hp0.objs.size) ?_ (he _)) rfl (hs1 _))
  refine PySem.ks_wpAt_super_base (env := PySem.W.ksEnv qual biSc hp0.objs.size f (.ref cda) cc) rfl rfl (by decide) rfl (X1 _ _ lk) rfl hp rfl (X1 _ _ hco) rfl hvs hfile B.top ?_
  obtain ⟨mb, hmb, hmb2⟩ := e0.mod.blt
  refine PySem.W.ks_loadName_global rfl rfl (loadGlobal_builtin (env := PySem.W.ksEnv qual biSc hp0.objs.size f (.ref cda) cc) (e0.mod.glob.keeps bk1) B.sg (hmb.keeps bk1) ((hmb2 _ (by decide +kernel)).trans (show bootBuiltins "super" = some (.type "super") from PyProof.Rows.Boot.«super»)) ⟨rfl, ?_⟩)
  refine wpAny_loadName_free rfl rfl rfl ⟨_, X1 _ _ hcc, rfl⟩ ?_
  refine wpAny_loadName_local (v := .ref a) rfl (by rw [har]; rfl) hns (by rw [har]; rfl) ?_
  refine PySem.ks_wpAny_isType_cls (X1 _ _ hC) rfl ⟨rfl, ?_⟩
  have IA : PySem.W.InstAt h₁ a ({ cls := .ref C, dict := none, data := .fields #[.ref t1, .none, .none, .none, .bool false, .none] } : Obj) C none := ⟨ho1, rfl, rfl, trivial⟩
  have hac : a ≠ C := PySem.W.ks_ne X1 IA hcl
  refine PySem.ks_wpAny_call_super (X1 _ _ hC) rfl ho1 rfl (fun c e => by cases e) (PySem.W.looks_mroIn X1 B.own) (fun h2 e2 k2 => ?_)
  have X2 : K.In h2 := X1.keeps k2
  have ho2 := k2 _ _ ho1
  have IA2 : PySem.W.InstAt h2 a ({ cls := .ref C, dict := none, data := .fields #[.ref t1, .none, .none, .none, .bool false, .none] } : Obj) C none := ⟨ho2, rfl, rfl, trivial⟩
  have hsup := B.sup
  unfold PySem.W.ks_superIn at hsup
  rw [hcl] at hsup
  refine PySem.W.kxs_getMethod PySem.W.kxs_ValueError e2 (PySem.W.looks_opaque X2 B.opq) (l₀ := .ref C :: bm) (fun A Q E s k q => wpAny_bind ((PySem.W.looks_clsIn X2 hcl) A _ E s k (wpAny_pure q))) rfl X2 hsup (IA2.type.andThen (PySem.W.looks_subIn X2 B.ve)) hac (by decide) ?_
  refine PySem.W.kxs_callWith (i := "ValueError.__init__") (x := a) (first := []) rfl (evalArgs_plain (spliced_cons ?_))
  have k3 : ∀ b o, h₁.get? b = some o → (h2.push (PySem.W.kxs_mw "ValueError.__init__" a)).get? b = some o := fun b o e => Heap.get?_push_of_some _ (k2 _ _ e)
  have hns3 : (h2.push (PySem.W.kxs_mw "ValueError.__init__" a)).Ns hp0.objs.size (fun y => ([(("self" : Str), Value.ref a), (("name" : Str), .str nm t)]).reverse.lookup y) := by
    obtain ⟨o, es, ep, e1, e3⟩ := hns
    exact ⟨o, es, ep, k3 _ _ e1, e3⟩
  show wpAny _ _ (eval (.BinOp (.Constant (.str tx) j p3) .Add (.Name "name" p4) p5) (PySem.W.ksEnv qual biSc hp0.objs.size f (.ref cda) cc)) _ _ _
  refine wpAny_BinOp (wpAny_Constant_str (wpAny_Name (wpAny_loadName_local (v := .str nm t) rfl rfl hns3 rfl ?_) (by decide)))
  refine PyProof.Rows.add_str (fun tt tk4 => spliced_nil ⟨?_, ?_⟩) (by rw [sizeLine_eq]; omega)
  · exact Heap.get?_push_at rfl rfl
  have X3 : K.In (h2.push (PySem.W.kxs_mw "ValueError.__init__" a)) := X1.keeps k3
  have ho3 := k3 _ _ ho1
  have hu3 : (h2.push (PySem.W.kxs_mw "ValueError.__init__" a)).get? h2.objs.size = some (PySem.W.kxs_mw "ValueError.__init__" a) := Heap.get?_push_at rfl rfl
  refine wpAny_call (codeAny_of_tree ?_)
  show wpAny _ _ (callAny (.ref h2.objs.size) ⟨[.str (tx ++ nm) tt], []⟩) _ _ _
  simp only [callAny]
  refine wpAny_bind (wpAny_load hu3 ?_)
  simp only [PySem.W.kxs_mw, show (Value.type "method-wrapper" == Value.type "method" || Value.type "method-wrapper" == Value.type "builtin_function_or_method" || Value.type "method-wrapper" == Value.type "method-wrapper") = true by decide, if_true]
  refine PySem.W.KFB.if_so (by decide) ?_
  obtain ⟨nm', N', qn', bs', bm', hdct', sn', sub', ab', col', dd', k0', k1', k2', k3', k5', hC', hT'⟩ := PySem.W.excInit_of X3 B.ini
  refine wpAny_bind (PySem.W.check_bound_init F.excBase_ValueError.toExcCallFacts hC' ho3 rfl ?_)
  refine wpAny_bind (wpAny_pure (wpAny_pure ?_))
  refine ⟨PySem.plainId_quiet F.excBase_ValueError.init.plain _, codeAny_builtin F.excBase_ValueError.initEntry ?_⟩
  refine PySem.W.exc_init_tree (cls := .ref C) (t0 := t1) (dv := none) (c2 := .none) (c3 := .none) (b4 := .bool false) ho3 (by rw [sizeLine_eq, List.length_singleton]; omega) (fun h4 kk4 e4 t4 => ?_)
  show PySem.wpAt _ _ _ (execs _ _) _ _ _
  have hLa : hp0.objs.size ≠ a := Nat.ne_of_gt (Heap.lt_size ho)
  have k4 : ∀ b o, b ≠ a → hp0.get? b = some o → h4.get? b = some o := fun b o nb e => kk4 _ _ nb (k3 _ _ (hk₁ _ _ e))
  have hns4 : h4.Ns hp0.objs.size (fun y => ([(("self" : Str), Value.ref a), (("name" : Str), .str nm t)]).reverse.lookup y) := by
    obtain ⟨o, es, ep, e1, e3⟩ := hns3
    exact ⟨o, es, ep, kk4 _ _ hLa e1, e3⟩
  have X4 : K.In h4 := fun b o e => by
    have eb := X3 b o e
    by_cases z : b = a
    · rw [z, ho3] at eb
      have eK := e0.mod.kin b o e
      have := (e0.bs b o eK).2
      rw [z, ea] at this
      cases this
    · exact kk4 _ _ z eb
  refine PySem.ks_wpAt_execs_cons (PySem.wpAt_of_wpAny (plainObj_wpAny_Assign_Attribute ?_ (hs2 _)))
  refine wpAny_Name (wpAny_loadName_local (v := .str nm t) rfl rfl hns4 rfl ?_) (by decide)
  refine wpAny_Name (wpAny_loadName_local (v := .ref a) rfl rfl hns4 rfl ?_) (by decide)
  refine PySem.W.set_plain X4 (ox := { cls := .ref C, dict := none, data := .fields #[.ref _, .none, .none, .none, .bool false, .none] }) (od := none) ⟨e4, rfl, rfl, trivial⟩ B.T.sa ?_
  refine PySem.HandSPX.exc_osa X4 e4 hcl (show PySem.HandSPX.refsVE (.ref C :: bm) = true from hbm) rfl B.nof (fun h5 tk5 dx kk5 dn dne hx hn => ?_)
  show PySem.wpAt _ _ _ (execs [] _) _ _ _
  refine PySem.wpAt_of_wpAny (wpAny_execs_nil ?_)
  have k5 : ∀ b o, b ≠ a → hp0.get? b = some o → h5.get? b = some o := fun b o nb e => kk5 _ _ nb (k4 _ _ nb e)
  have s4 : hp0.objs.size ≤ h4.objs.size := Nat.le_of_lt (by
    obtain ⟨o, _, _, e1, _⟩ := hns4
    exact Heap.lt_size e1)
  have dx0 : H dx = none := hge _ (Nat.le_trans s4 dn)
  have dxn : ∀ {b : Addr} {o : Obj}, hp0.get? b = some o → b ≠ dx := fun {b o} q => Nat.ne_of_lt (Nat.lt_of_lt_of_le (Heap.lt_size q) (Nat.le_trans s4 dn))
  have na : ∀ {b : Addr}, H b = none → b ≠ a := fun {b} n z => by
    rw [z, ea] at n
    cases n
  refine ⟨.non, upd (upd H dx (exd dx [(("name" : Str), .str nm)])) a (exo a C (some dx)), rfl, e0.bare, ?_, ?_, rfl, hq dx dx0 dne⟩
  · exact {
      keep := fun b o q n _ _ => k5 b o (na n) q
      slot := fun b o q n _ _ => ⟨o.slots, k5 b o (na n) q⟩
      free := fun b o q n _ => by rw [upd_ne (na n), upd_ne (dxn q)]; exact n
      there := fun b o q _ => by
        by_cases hb : b = a
        · exact ⟨_, by rw [hb]; exact hx⟩
        · exact ⟨o, k5 b o hb q⟩
      tups := fun b xs q => by rw [upd_ne (at_ne ea q exo_tup), upd_ne (ne_of_none q dx0)]; exact q
      frzs := fun b o v q => by rw [upd_ne (at_ne ea q exo_frz), upd_ne (ne_of_none q dx0)]; exact q
      tbls := fun b ps q => ⟨#[], by rw [upd_ne (at_ne ea q exo_tbl), upd_ne (ne_of_none q dx0), q]; simp⟩ }
  · intro b o q
    by_cases hb : b = a
    · subst hb
      rw [upd_same] at q
      cases q
      exact exo_ok hx
    · rw [upd_ne hb] at q
      by_cases hd : b = dx
      · subst hd
        rw [upd_same] at q
        cases q
        exact exd_ok hn (relO_put (fs := []) ⟨t, rfl⟩ fun g => True.intro)
      · rw [upd_ne hd] at q
        exact (e0.hok b o q).stay (fun c v hc z => k5 c v (by
            rcases hc with hc | hc
            · rw [hc]
              exact hb
            · exact at_ne ea hc exo_own) z)
          (fun c hc => by rw [upd_ne (at_ne ea hc exo_own), upd_ne (ne_of_none hc dx0)]; exact hc) (fun c xs hc => by rw [upd_ne (at_ne ea hc exo_tup), upd_ne (ne_of_none hc dx0)]; exact hc)
end

/-! ### raise -/
section
variable {C : Ct} {te : TE} {fe : EX}
theorem evs_raise (he : EvE C te fe) : EvS C (fun D σ H => tMkO C.G.CB (spBI C.G.CB) [] (tCons te tNil) σ H fun cls d H' => C.E cls d H') (sRaise fe) := fun D' σ ρ F H δ r R e p =>
  he.then R e p.err fun d δ1 v F1 H1 e1 R1 s1 rp => by
    cases rp with
    | str nm =>
      dsimp only at e1
      split at e1
      · rename_i hl
        cases (Option.some.inj e1).symm
        refine ⟨by simp, fun a ha => ⟨a, nm, rfl, upd_same, hl, fun dx hdx hne => ⟨rfl, dx, _, upd_same, by rw [upd_ne hne]; exact upd_same, ?_, ?_⟩⟩⟩
        · rw [upd_ne hne] at hdx; exact hdx
        · rw [upd_ne hne] at hdx
          have eq : upd (del (upd (upd (upd H1 a (exo a C.G.CB none)) dx (exd dx [(("name" : Str), .str nm)])) a (exo a C.G.CB (some dx))) a) dx (.xd [(("name" : Str), .str nm)]) = upd H1 dx (.xd [(("name" : Str), .str nm)]) := by
            funext b
            by_cases hb : b = dx
            · rw [hb, upd_same, upd_same]
            · rw [upd_ne hb, upd_ne hb]
              by_cases hba : b = a
              · rw [hba, del_same, ha]
              · rw [del_ne hba, upd_ne hba, upd_ne hb, upd_ne hba]
          rw [eq]
          have n1 : dx ≠ C.aD := fun z => R1.hs.dne (by rw [← z]; exact hdx)
          have n2 : dx ∉ C.G.tabs := fun z => R1.hs.tne z hdx
          have n0 : C.H0 dx = none := by
            cases z : C.H0 dx with
            | none => rfl
            | some o => exact absurd hdx (R1.st.dom dx (by rw [z]; exact fun z => nomatch z))
          have pe : ErrP C nm δ1 := p
          exact pe F1 _ dx (R1.hs.own (R1.hs.fne hdx) n1 n2 (nc_none hdx)) (Step.own R1.st n0) upd_same
      · cases e1
    | _ => cases e1
end
end Lay

set_option Elab.async false
set_option linter.all false
set_option maxRecDepth 100000
set_option maxHeartbeats 2000000
/-! One judgement for both: the code, read by the mirror -/
namespace Lay
open PySem PySem.Spec PyProof.Rows L2

section
variable (C : Ct)
def tOf (f : EX) : TE := fun σ H Q => ∃ ρ F δ r, Rel C σ ρ F H δ ∧ f ρ δ = some r ∧ PostE C F H Q r
def tOfT (f : EB) : TT := fun σ H Q => ∃ ρ F δ r, Rel C σ ρ F H δ ∧ f ρ δ = some r ∧ PostB C F H Q r
def tOfA (f : EL) : TA := fun σ H Q => ∃ ρ F δ r, Rel C σ ρ F H δ ∧ f ρ δ = some r ∧ PostL C F H Q r
def tOfI (f : EL) : TI := fun σ H Q => ∃ ρ F δ r, Rel C σ ρ F H δ ∧ f ρ δ = some r ∧ PostI C F H Q r
def tOfS (f : ST) : TS := fun D' σ H => ∃ ρ F δ r, Rel C σ ρ F H δ ∧ f ρ δ = some r ∧ PostS C F D' r
def tOfG (tg : Tg) : TG := fun v σ H Q => ∃ d ρ ρ' F δ, Rel C σ ρ F H δ ∧ Rp F v d ∧ bindT tg ρ d = some ρ' ∧ ∀ σ', Rel C σ' ρ' F H δ → (∀ i, i ∉ slotsT tg → σ'[i]? = σ[i]?) → Q σ' H
def tOfGs (tg : List Tg) : TGs := fun v σ H Q => ∃ d ρ ρ' F δ, Rel C σ ρ F H δ ∧ RpA F v d ∧ bindTs tg ρ d = some ρ' ∧ ∀ σ', Rel C σ' ρ' F H δ → (∀ i, i ∉ slotsTs tg → σ'[i]? = σ[i]?) → Q σ' H
variable (X : Cx)
def JE (e : Expr) (f : EX) : Prop := PE X e (tOf C f)
def JT (e : Expr) (f : EB) : Prop := PT X e (tOfT C f)
def JW (e : Expr) (f : EB) : Prop := PW X e (tOfT C f)
def JA (es : List Expr) (f : EL) : Prop := PA X es (tOfA C f)
def JK (ks : List Keyword) (f : EL) : Prop := PK X ks (tOfA C f)
def JI (tg it : Expr) (f : EL) : Prop := PI X tg it (tOfI C f)
def JG (e : Expr) (tg : Tg) : Prop := PG X e (tOfG C tg)
def JGs (e : List Expr) (tg : List Tg) : Prop := PGs X e (tOfGs C tg)
def JS (st : Stmt) (f : ST) : Prop := PS X st (tOfS C f)
def JSs (st : List Stmt) (f : ST) : Prop := PSs X st (tOfS C f)
def JTs (ifs : List Expr) (f : EB) : Prop := PTs X ifs (tOfT C f)
def JO (e : Option Expr) (f : Option EX) : Prop := ∃ t, PO X e t ∧ EvO C t f
end
section
variable {C : Ct} {X : Cx}
theorem ev_of {f : EX} : EvE C (tOf C f) f := fun σ ρ F H δ Q r R e p => ⟨ρ, F, δ, r, R, e, p⟩
theorem evt_of {f : EB} : EvT C (tOfT C f) f := fun σ ρ F H δ Q r R e p => ⟨ρ, F, δ, r, R, e, p⟩
theorem eva_of {f : EL} : EvA C (tOfA C f) f := fun σ ρ F H δ Q r R e p => ⟨ρ, F, δ, r, R, e, p⟩
theorem evi_of {f : EL} : EvI C (tOfI C f) f := fun σ ρ F H δ Q r R e p => ⟨ρ, F, δ, r, R, e, p⟩
theorem evs_of {f : ST} : EvS C (tOfS C f) f := fun D' σ ρ F H δ r R e p => ⟨ρ, F, δ, r, R, e, p⟩
theorem evg_of {tg : Tg} : EvG C (tOfG C tg) tg := fun v d σ ρ ρ' F H δ Q R rp e q => ⟨d, ρ, ρ', F, δ, R, rp, e, q⟩
theorem evgs_of {tg : List Tg} : EvGs C (tOfGs C tg) tg := fun v d σ ρ ρ' F H δ Q R rp e q => ⟨d, ρ, ρ', F, δ, R, rp, e, q⟩
theorem je {e : Expr} {t : TE} {f : EX} (h : PE X e t) (k : EvE C t f) : JE C X e f := ⟨fun pins s σ H Q I ⟨ρ, F, δ, r, R, e, p⟩ => h.run pins s σ H Q I (k σ ρ F H δ Q r R e p)⟩
theorem jt {e : Expr} {t : TT} {f : EB} (h : PT X e t) (k : EvT C t f) : JT C X e f := ⟨fun pins s σ H Q I ⟨ρ, F, δ, r, R, e, p⟩ => h.run pins s σ H Q I (k σ ρ F H δ Q r R e p)⟩
theorem jw {e : Expr} {t : TT} {f : EB} (h : PW X e t) (k : EvT C t f) : JW C X e f := ⟨fun w pins s σ H Q I ⟨ρ, F, δ, r, R, e, p⟩ => h.run w pins s σ H Q I (k σ ρ F H δ Q r R e p)⟩
theorem ja {es : List Expr} {t : TA} {f : EL} (h : PA X es t) (k : EvA C t f) : JA C X es f := ⟨fun pos pins s σ H Q I ⟨ρ, F, δ, r, R, e, p⟩ => h.run pos pins s σ H Q I (k σ ρ F H δ Q r R e p)⟩
theorem jk {ks : List Keyword} {t : TA} {f : EL} (h : PK X ks t) (k : EvA C t f) : JK C X ks f := ⟨fun pos pins s σ H Q I ⟨ρ, F, δ, r, R, e, p⟩ => h.run pos pins s σ H Q I (k σ ρ F H δ Q r R e p)⟩
theorem ji {tg it : Expr} {t : TI} {f : EL} (h : PI X tg it t) (k : EvI C t f) : JI C X tg it f := ⟨fun pins s σ H Q I ⟨ρ, F, δ, r, R, e, p⟩ => h.run pins s σ H Q I (k σ ρ F H δ Q r R e p)⟩
theorem jg {e : Expr} {t : TG} {tg : Tg} (h : PG X e t) (k : EvG C t tg) : JG C X e tg := ⟨fun pins s σ H v u Q I r ⟨d, ρ, ρ', F, δ, R, rp, e, q⟩ => h.run pins s σ H v u Q I r (k v d σ ρ ρ' F H δ Q R rp e q)⟩
theorem jgs {e : List Expr} {t : TGs} {tg : List Tg} (h : PGs X e t) (k : EvGs C t tg) : JGs C X e tg := ⟨fun pins s σ H v u Q I r ⟨d, ρ, ρ', F, δ, R, rp, e, q⟩ => h.run pins s σ H v u Q I r (k v d σ ρ ρ' F H δ Q R rp e q)⟩
theorem js {st : Stmt} {t : TS} {f : ST} (h : PS X st t) (k : EvS C t f) : JS C X st f := ⟨fun pins s σ H D I ⟨ρ, F, δ, r, R, e, p⟩ => h.run pins s σ H D I (k D σ ρ F H δ r R e p)⟩
theorem jss {st : List Stmt} {t : TS} {f : ST} (h : PSs X st t) (k : EvS C t f) : JSs C X st f := ⟨fun pins s σ H D I ⟨ρ, F, δ, r, R, e, p⟩ => h.run pins s σ H D I (k D σ ρ F H δ r R e p)⟩
theorem jts {ifs : List Expr} {t : TT} {f : EB} (h : PTs X ifs t) (k : EvT C t f) : JTs C X ifs f := ⟨fun pins s σ H Q I ⟨ρ, F, δ, r, R, e, p⟩ => h.run pins s σ H Q I (k σ ρ F H δ Q r R e p)⟩

/-! ### names, constants, operations -/
theorem je_var {i : Nat} {x : Str} {pos : Pos} (hN : X.N[i]? = some x := by rfl) (hv : Vis X.env.scope x := by first | exact .inl rfl | exact .inr (.inl rfl) | exact .inr (.inr rfl)) (hd : (x == ("__debug__" : Str)) = false := by decide) (hcd : (x == ("__classdict__" : Str)) = false := by decide) :
    JE C X (.Name x pos) (eVar i) := je (pe_var hN hv hd hcd) ev_var
theorem je_int {i : Int} {j : Nat} {pos : Pos} : JE C X (.Constant (.int i) j pos) (eC (.int i)) := je pe_int ev_int
theorem je_bl {b : Bool} {j : Nat} {pos : Pos} : JE C X (.Constant (.bool b) j pos) (eC (.bool b)) := je pe_bl ev_bl
theorem je_non {j : Nat} {pos : Pos} : JE C X (.Constant .none j pos) (eC .none) := je pe_non ev_non
theorem je_str {x : Str} {j : Nat} {pos : Pos} : JE C X (.Constant (.str x) j pos) (eC (.str x)) := je pe_str ev_str
/-- a module's number -/
theorem je_glob {x : Str} {u : Value} {i : Int} {pos : Pos} (hm : X.mg x = some u) (r : RelV (.int i) u) (hg : Gl X x := by rfl) (hd : (x == ("__debug__" : Str)) = false := by decide) : JE C X (.Name x pos) (eC (.int i)) := je (pe_glob hg hm r hd) ev_int
variable {a b c e : Expr} {fa fb fc fe : EX} {pos : Pos}
theorem je_bin {o : Operator} {r : R2} {op : D → D → Option D} (h : OpR X (binaryOp o) r) (k : Raw2 C r op) (ha : JE C X a fa) (hb : JE C X b fb) : JE C X (.BinOp a o b pos) (eBin op fa fb) := je (pe_op h ha hb) (ev_bin k ev_of ev_of)
theorem je_un {o : UnaryOp} {r : V → Hp → VK → Prop} {op : D → Option D} (h : UnR X (unaryOp o) r) (k : Raw1 C r op) (ha : JE C X a fa) : JE C X (.UnaryOp o a pos) (eUn op fa) := je (pe_un h ha) (ev_un k ev_of)
theorem je_cmp {o : CmpOp} {r : R2} {op : D → D → Option D} (h : OpR X (compareOp o) r) (k : Raw2 C r op) (ha : JE C X a fa) (hb : JE C X b fb) (hm : behindInMarks o b = false) : JE C X (.Compare a [o] [b] pos) (eBin op fa fb) := je (pe_cmpR h ha hb hm) (ev_bin k ev_of ev_of)
theorem jt_cmp {o : CmpOp} {r : R2} {op : D → D → Option D} (h : OpR X (compareOp o) r) (k : Raw2 C r op) (ha : JE C X a fa) (hb : JE C X b fb) (hm : behindInMarks o b = false) : JT C X (.Compare a [o] [b] pos) (bOf (eBin op fa fb)) := jt (pt_cmpR h ha hb hm) (evt_test (ev_bin k ev_of ev_of))
theorem je_chain {o o' : CmpOp} {r r' : R2} {op op' : D → D → Option D} (h : OpR X (compareOp o) r) (k : Raw2 C r op) (h' : OpR X (compareOp o') r') (k' : Raw2 C r' op') (ha : JE C X a fa) (hb : JE C X b fb) (hc : JE C X c fc) (hm : lastMarks [o, o'] [b, c] = false := by with_unfolding_all rfl) :
    JE C X (.Compare a [o, o'] [b, c] pos) (eChain op op' fa fb fc) := je (pe_chain h h' ha hb hc hm) (ev_chain k k' ev_of ev_of ev_of)
theorem jt_chain {o o' : CmpOp} {r r' : R2} {op op' : D → D → Option D} (h : OpR X (compareOp o) r) (k : Raw2 C r op) (h' : OpR X (compareOp o') r') (k' : Raw2 C r' op') (ha : JE C X a fa) (hb : JE C X b fb) (hc : JE C X c fc) (hm : lastMarks [o, o'] [b, c] = false := by with_unfolding_all rfl) :
    JT C X (.Compare a [o, o'] [b, c] pos) (bOf (eChain op op' fa fb fc)) := jt (pt_chain h h' ha hb hc hm) (evt_test (ev_chain k k' ev_of ev_of ev_of))
theorem jt_val (ha : JE C X a fa) (he : ∀ whole, isTrue a X.env whole = (do let v ← whole; standAt a.pos; holding [v] (truthy v)) := by intro _; rfl) : JT C X a (bOf fa) := jt (pt_val ha he) (evt_B ev_of)
variable {rest : List Expr} {ga gb : EB}
theorem jt_and1 (ha : JT C X a ga) : JW C X (.BoolOp .And [a] pos) ga := jw (pw_and1 ha) evt_of
theorem jt_or1 (ha : JT C X a ga) : JW C X (.BoolOp .Or [a] pos) ga := jw (pw_or1 ha) evt_of
theorem jt_andc (ha : JT C X a ga) (hb : JW C X (.BoolOp .And (b :: rest) pos) gb) : JW C X (.BoolOp .And (a :: b :: rest) pos) (bAnd ga gb) := jw (pw_and ha hb) (evt_and evt_of evt_of)
theorem jt_orc (ha : JT C X a ga) (hb : JW C X (.BoolOp .Or (b :: rest) pos) gb) : JW C X (.BoolOp .Or (a :: b :: rest) pos) (bOr ga gb) := jw (pw_or ha hb) (evt_or evt_of evt_of)
theorem JW.pt (h : JW C X a ga) : JT C X a ga := PW.pt h
theorem jt_not (ha : JT C X a ga) : JT C X (.UnaryOp .Not a pos) (bNot ga) := jt (pt_not ha) (evt_not evt_of)
theorem je_one {op : PySem.BoolOp} (h : JE C X a fa) : JE C X (.BoolOp op [a] pos) fa := je (pe_one h) ev_of
theorem je_and (ha : JE C X a fa) (hb : JE C X (.BoolOp .And (b :: rest) pos) fb) : JE C X (.BoolOp .And (a :: b :: rest) pos) (eAnd fa fb) := je (pe_and ha hb) (ev_and ev_of ev_of)
theorem je_or (ha : JE C X a fa) (hb : JE C X (.BoolOp .Or (b :: rest) pos) fb) : JE C X (.BoolOp .Or (a :: b :: rest) pos) (eOr fa fb) := je (pe_or ha hb) (ev_or ev_of ev_of)
theorem je_not (ha : JE C X a fa) : JE C X (.UnaryOp .Not a pos) (eNot fa) := je (pe_not ha) (ev_not ev_of)
theorem je_if (hc : JT C X c ga) (ha : JE C X a fa) (hb : JE C X b fb) : JE C X (.IfExp c a b pos) (eIf ga fa fb) := je (pe_ifExp hc ha hb) (ev_if evt_of ev_of ev_of)
/-! ### lists of arguments, displays -/
variable {es : List Expr} {gl : EL}
theorem ja_nil : JA C X [] lNil := ja pa_nil eva_nil
theorem ja_cons (ha : JE C X a fa) (hl : JA C X es gl) (hs : starEach (a :: es) X.env = (false, eval a X.env) :: starEach es X.env := by rfl) : JA C X (a :: es) (lCons fa gl) := ja (pa_cons ha hl hs) (eva_cons ev_of eva_of)
theorem jk_nil : JK C X [] lNil := jk pk_nil eva_nil
theorem jk_cons {nm : Option Str} {kpos : Pos} {kws : List Keyword} (ha : JE C X a fa) (hl : JK C X kws gl) : JK C X (⟨nm, a, kpos⟩ :: kws) (lCons fa gl) := jk (pk_cons ha hl) (eva_cons ev_of eva_of)
theorem je_tup {k : Nat} (h : JA C X es gl) : JE C X (.Tuple es k pos) (eTup gl) := je (pe_tup h) (ev_tup eva_of)
theorem je_lst (h : JA C X es gl) : JE C X (.List es pos) (eLst gl) := je (pe_lst h) (ev_lst eva_of)
/-! ### indices, slices -/
theorem je_ix (ha : JE C X a fa) (hb : JE C X b fb) (hs : PlainIx b := by exact fun _ _ => rfl) : JE C X (.Subscript a b pos) (eBin dIx fa fb) := je (pe_ix ix_seq ha hb hs) (ev_bin raw_ix ev_of ev_of)
/-- the own list's item, its length -/
theorem je_ownIx {i : Nat} {x : Str} {p : Pos} (hN : X.N[i]? = some x := by rfl) (hv : Vis X.env.scope x := by first | exact .inl rfl | exact .inr (.inl rfl) | exact .inr (.inr rfl)) (hb : JE C X b fb) (hs : PlainIx b := by exact fun _ _ => rfl) (hd : (x == ("__debug__" : Str)) = false := by decide) (hcd : (x == ("__classdict__" : Str)) = false := by decide) :
    JE C X (.Subscript (.Name x p) b pos) (eOwnIx i fb) := je (pe_ix ix_list (pe_var hN hv hd hcd) hb hs) (ev_ownIx ev_of)
theorem jo_none : JO C X none none := ⟨_, po_none, evo_none⟩
theorem jo_some (ha : JE C X a fa) : JO C X (some a) (some fa) := ⟨_, po_some ha, evo_some ev_of⟩
theorem je_sl {lo hi : Option Expr} {fl fh : Option EX} {p2 : Pos} (ha : JE C X a fa) (hl : JO C X lo fl) (hh : JO C X hi fh) : JE C X (.Subscript a (.Slice lo hi none p2) pos) (eSl fa fl fh) := by
  obtain ⟨_, p1, k1⟩ := hl
  obtain ⟨_, p2, k2⟩ := hh
  exact je (pe_slice sl_D ha p1 p2) (ev_sl ev_of k1 k2)
/-! ### calls -/
theorem je_callB {x : Str} {p : Pos} {id : String} {r : List V → Hp → VK → Prop} {op : List D → Option D} (h : CallR X (.builtin id) r) (k : RawL C r op) (hm : X.mg x = none) (hb : bootBuiltins x = some (.builtin id)) (ha : JA C X (a :: es) gl) (hg : Gl X x := by rfl) (hn : x ≠ "__name__" := by decide) (hdb : (x == ("__debug__" : Str)) = false := by decide)
    (he : starEach (a :: es) X.env = (false, eval a X.env) :: starEach es X.env := by rfl) (hpl : (backTo pos (starEach es X.env)).any (·.1) = false := by rfl) : JE C X (.Call (.Name x p) (a :: es) [] pos) (eCallB op gl) := je (pe_callB h hg hm hb ha hn hdb he hpl) (ev_callB k eva_of)
/-- a type's call: int, list, tuple -/
theorem je_callT {x : Str} {p : Pos} {id : String} {r : List V → Hp → VK → Prop} {op : List D → Option D} (h : CallR X (.type id) r) (k : RawL C r op) (hm : X.mg x = none) (hb : bootBuiltins x = some (.type id)) (ha : JA C X (a :: es) gl) (hg : Gl X x := by rfl) (hn : x ≠ "__name__" := by decide) (hdb : (x == ("__debug__" : Str)) = false := by decide)
    (he : starEach (a :: es) X.env = (false, eval a X.env) :: starEach es X.env := by rfl) (hpl : (backTo pos (starEach es X.env)).any (·.1) = false := by rfl) : JE C X (.Call (.Name x p) (a :: es) [] pos) (eCallB op gl) := je (pe_callTy h hg hm hb ha hn hdb he hpl) (ev_callB k eva_of)
theorem je_ownLen {i : Nat} {x : Str} {p p2 : Pos} (hm : X.mg "len" = none) (hg : Gl X "len" := by rfl) (hN : X.N[i]? = some x := by rfl) (hv : Vis X.env.scope x := by first | exact .inl rfl | exact .inr (.inl rfl) | exact .inr (.inr rfl)) (hd : (x == ("__debug__" : Str)) = false := by decide) (hcd : (x == ("__classdict__" : Str)) = false := by decide)
    (he : starEach [.Name x p2] X.env = (false, eval (.Name x p2) X.env) :: starEach [] X.env := by rfl) (hpl : (backTo pos (starEach [] X.env)).any (·.1) = false := by rfl) : JE C X (.Call (.Name "len" p) [.Name x p2] [] pos) (eOwnLen i) :=
  je (pe_callB call_len_seq hg hm boot_len (pa_cons (pe_var hN hv hd hcd) pa_nil he) (by decide) (by decide) he hpl) ev_ownLen
/-- isinstance(e, T) -/
theorem je_isi {T : String} {p p2 : Pos} (hT : T ∈ ["int", "bool", "tuple"]) (hm : X.mg "isinstance" = none) (hmT : X.mg (Str.ofString T) = none) (hbT : bootBuiltins (Str.ofString T) = some (.type T)) (ha : JE C X a fa) (hgT : Gl X (Str.ofString T) := by rfl) (hg : Gl X "isinstance" := by rfl) (hnT : Str.ofString T ≠ "__name__" := by decide) (hdT : (Str.ofString T == ("__debug__" : Str)) = false := by decide)
    (h1 : starEach [.Name (Str.ofString T) p2] X.env = (false, eval (.Name (Str.ofString T) p2) X.env) :: starEach [] X.env := by rfl) (he : starEach [a, .Name (Str.ofString T) p2] X.env = (false, eval a X.env) :: starEach [.Name (Str.ofString T) p2] X.env := by rfl) (hpl : (backTo pos (starEach [.Name (Str.ofString T) p2] X.env)).any (·.1) = false := by rfl) :
    JE C X (.Call (.Name "isinstance" p) [a, .Name (Str.ofString T) p2] [] pos) (eCallB (dIsi T) (lCons fa lNil)) :=
  je (pe_callB call_isi hg hm boot_isinstance (pa_cons ha (pa_cons (pe_bltn (v := .ty T) hgT hmT hbT rfl hnT hdT) pa_nil h1) he) (by decide) (by decide) he hpl) (ev_isi hT ev_of)
/-- a def that may be called: its promise is its mirror -/
structure CalX (P : Program) (w : World) (K : PySem.W.Frag) (mg : Str → Option Value) (base : Heap) (k : Nat) (x : Str) (sp : Sp) : Prop where
  ex : ∃ (f : Addr) (fd : FuncData) (ps : List Str), FnOk P w K mg base (L2.CX P w) k f fd ps sp ∧ mg x = some (.ref f) ∧ PySem.W.keepIn K (.ref f) = true ∧ L2.Binds K fd ps []
/-- n values by keywords, behind those by place -/
def gk {α : Type} (n : Nat) (us ws : List α) : List α := if ws.length = n then us ++ ws else []
structure CalK (P : Program) (w : World) (K : PySem.W.Frag) (mg : Str → Option Value) (base : Heap) (k : Nat) (x : Str) (ks : List Str) (sp : Sp) : Prop where
  ex : ∃ (f : Addr) (fd : FuncData) (ps : List Str), FnOk P w K mg base (L2.CX P w) k f fd ps sp ∧ mg x = some (.ref f) ∧ PySem.W.keepIn K (.ref f) = true ∧ KBinds K fd ps ks (gk ks.length) (gk ks.length)
theorem je_call {k k' : Nat} {x : Str} {m : List D → M D} {p : Pos} (T : CalX X.prog X.w X.K X.mg X.base k x (spX C.G m)) (hr : Room k' X.A) (hx : Passes (L2.CX X.prog X.w) X C.E) (ha : JA C X (a :: es) gl) (hk : k ≤ k' := by decide) (hg : Gl X x := by rfl) (hdb : (x == ("__debug__" : Str)) = false := by decide)
    (he : starEach (a :: es) X.env = (false, eval a X.env) :: starEach es X.env := by rfl) (hpl : (backTo pos (starEach es X.env)).any (·.1) = false := by rfl) : JE C X (.Call (.Name x p) (a :: es) [] pos) (eCall m gl) := by
  obtain ⟨f, fd, ps, F, hm, hkp, hb⟩ := T.ex
  exact je (pe_call F (hr.mono hk) hg hm hkp hb .nil hx ha hdb he hpl) (ev_call eva_of)
theorem gk_rp {n : Nat} (F : Hp) (vs : List V) (ds : List D) (ws : List V) (es : List D) (h : RpA F vs ds) (h' : RpA F ws es) : RpA F (gk n vs ws) (gk n ds es) := by
  unfold gk
  rw [h'.length]
  split
  · exact h.append h'
  · exact .nil
def eCallKw (m : List D → M D) (n : Nat) (gl gk' : EL) : EX := fun ρ => M.bind (gl ρ) fun ds => M.bind (gk' ρ) fun es => m (gk n ds es)
theorem je_callK {k k' : Nat} {x : Str} {ks : List Str} {kws : List Keyword} {m : List D → M D} {hl : EL} {p : Pos} (T : CalK X.prog X.w X.K X.mg X.base k x ks (spX C.G m)) (hr : Room k' X.A) (hx : Passes (L2.CX X.prog X.w) X C.E) (ha : JA C X (a :: es) gl) (hw : JK C X kws hl) {n : Nat} (hn : ks.length = n := by rfl) (hk : k ≤ k' := by decide) (hg : Gl X x := by rfl)
    (hall : (backToKw pos (keywordEach kws X.env)).all (·.1.isSome) = true := by rfl) (hks : (backToKw pos (keywordEach kws X.env)).filterMap (·.1) = ks := by rfl) (hdb : (x == ("__debug__" : Str)) = false := by decide)
    (he : starEach (a :: es) X.env = (false, eval a X.env) :: starEach es X.env := by rfl) (hpl : ((backTo pos (starEach (a :: es) X.env)).any (·.1) || (backToKw pos (keywordEach kws X.env)).any (·.1.isNone)) = false := by rfl) : JE C X (.Call (.Name x p) (a :: es) kws pos) (eCallKw m n gl hl) := by
  subst hn
  obtain ⟨f, fd, ps, F, hm, hkp, hb⟩ := T.ex
  exact je (pe_callK F (hr.mono hk) hg hm hkp hb hx ha hw hall hks hdb he hpl) (ev_callK gk_rp eva_of eva_of)
/-- f(k = v, ..) -/
theorem pe_callK0 {CX : CXT} {k : Nat} {f : Addr} {fd : FuncData} {ps ks : List Str} {sp : Sp} {E : XK} {x : Str} {p : Pos} {kws : List Keyword} {tk : TA} {g : List Value → List Value → List Value} {gV : List V → List V → List V} (F : FnOk X.prog X.w X.K X.mg X.base CX k f fd ps sp) (hr : Room k X.A) (hg : Gl X x) (hm : X.mg x = some (.ref f)) (hk : PySem.W.keepIn X.K (.ref f) = true) (hb : KBinds X.K fd ps ks g gV) (hx : Passes CX X E)
    (hkw : PK X kws tk) (hall : (backToKw pos (keywordEach kws X.env)).all (·.1.isSome) = true) (hks : (backToKw pos (keywordEach kws X.env)).filterMap (·.1) = ks) (hdb : (x == ("__debug__" : Str)) = false)
    (hpl : ((backTo pos (starEach [] X.env)).any (·.1) || (backToKw pos (keywordEach kws X.env)).any (·.1.isNone)) = false) : PE X (.Call (.Name x p) [] kws pos) (tCallK sp gV E tNil tk) := by
  refine ⟨fun pins s σ H Q I h => ?_⟩
  refine wpAny_Call_Name_kw (ld_glob I hg hm ?_ hdb)
  refine PySem.W.callWith_KW0 (h₀ := X.base) I.ok.mod.kin hk hall ?_ hpl
  refine thn (hkw.run pos pins s σ H _ I h) fun ws s2 ⟨zs, H2, I2, rz, q2⟩ => ⟨I2.kIn, ?_⟩
  rw [hks, List.nil_append]
  exact run_fnk F hr hb hx I2 .nil rz q2
theorem je_callK0 {k k' : Nat} {x : Str} {ks : List Str} {kws : List Keyword} {m : List D → M D} {hl : EL} {p : Pos} (T : CalK X.prog X.w X.K X.mg X.base k x ks (spX C.G m)) (hr : Room k' X.A) (hx : Passes (L2.CX X.prog X.w) X C.E) (hw : JK C X kws hl) {n : Nat} (hn : ks.length = n := by rfl) (hk : k ≤ k' := by decide) (hg : Gl X x := by rfl)
    (hall : (backToKw pos (keywordEach kws X.env)).all (·.1.isSome) = true := by rfl) (hks : (backToKw pos (keywordEach kws X.env)).filterMap (·.1) = ks := by rfl) (hdb : (x == ("__debug__" : Str)) = false := by decide)
    (hpl : ((backTo pos (starEach [] X.env)).any (·.1) || (backToKw pos (keywordEach kws X.env)).any (·.1.isNone)) = false := by rfl) : JE C X (.Call (.Name x p) [] kws pos) (eCallKw m n lNil hl) := by
  subst hn
  obtain ⟨f, fd, ps, F, hm, hkp, hb⟩ := T.ex
  exact je (pe_callK0 F (hr.mono hk) hg hm hkp hb hx hw hall hks hdb hpl) (ev_callK gk_rp eva_nil eva_of)
/-- f(dice, ..) -/
theorem je_callD {k k' i : Nat} {x y : Str} {m : List D → M D} {p p2 : Pos} (T : CalX X.prog X.w X.K X.mg X.base k x (spD C.G m)) (hr : Room k' X.A) (hx : Passes (L2.CX X.prog X.w) X C.E) (ha : JA C X es gl) (hk : k ≤ k' := by decide) (hN : X.N[i]? = some y := by rfl) (hv : Vis X.env.scope y := by first | exact .inl rfl | exact .inr (.inl rfl) | exact .inr (.inr rfl)) (hg : Gl X x := by rfl) (hdb : (x == ("__debug__" : Str)) = false := by decide)
    (hd : (y == ("__debug__" : Str)) = false := by decide) (hcd : (y == ("__classdict__" : Str)) = false := by decide)
    (he : starEach (.Name y p2 :: es) X.env = (false, eval (.Name y p2) X.env) :: starEach es X.env := by rfl) (hpl : (backTo pos (starEach es X.env)).any (·.1) = false := by rfl) : JE C X (.Call (.Name x p) (.Name y p2 :: es) [] pos) (eCallD i m gl) := by
  obtain ⟨f, fd, ps, F, hm, hkp, hb⟩ := T.ex
  exact je (pe_call F (hr.mono hk) hg hm hkp hb .nil hx (pa_cons (pe_var hN hv hd hcd) ha he) hdb he hpl) (ev_callD eva_of)
/-! ### targets -/
theorem jg_name {i : Nat} {x : Str} (nd : X.N.Nodup) (hi : X.N[i]? = some x := by rfl) (hx : Loc X.env.scope x := by first | exact .inl rfl | exact .inr rfl) (hf : X.fn x = true ∨ X.env.scope.names.lookup x = some .local := by first | exact .inl rfl | exact .inr rfl) : JG C X (.Name x pos) (.n i) := jg (pg_name nd hi hx hf) evg_name
theorem jgs_nil : JGs C X [] [] := jgs pgs_nil evgs_nil
theorem jgs_cons {t : Tg} {ts : List Tg} (h1 : JG C X e t) (h2 : JGs C X es ts) (hs : (assignEach (e :: es) X.env).map (·.2) = assign e X.env :: (assignEach es X.env).map (·.2) := by rfl) : JGs C X (e :: es) (t :: ts) := jgs (pgs_cons h1 h2 hs) (evgs_cons evg_of evgs_of)
theorem jg_tup {k n : Nat} {ts : List Tg} (hc : X.calm = true) (h : JGs C X es ts) (hl : ts.length = n := by rfl) (hn : (assignEach es X.env).length = n := by rfl) (hst : (assignEach es X.env).findIdx? (·.1) = none := by rfl) : JG C X (.Tuple es k pos) (.t ts) := jg (pg_tup hc h hn hst) (evg_tup evgs_of hl)
/-! ### what is walked -/
variable {tg it : Expr}
theorem ji_list (ha : JE C X it fa) : JI C X tg it (itL fa) := ji (pi_list ha) (evi_list ev_of)
theorem ji_tup (ha : JE C X it fa) : JI C X tg it (itT fa) := ji (pi_tup ha) (evi_tup ev_of)
theorem ji_rng1 {p : Pos} (hm : X.mg "range" = none) (ha : JE C X a fa) (hg : Gl X "range" := by rfl) (hs : starEach [a] X.env = [(false, eval a X.env)] := by rfl) : JI C X tg (.Call (.Name "range" p) [a] [] pos) (itR1 fa) := ji (pi_range1 hg hm (pa_cons ha pa_nil hs) hs) (evi_range1 ev_of)
theorem ji_rng2 {p : Pos} (hm : X.mg "range" = none) (ha : JE C X a fa) (hb : JE C X b fb) (hg : Gl X "range" := by rfl) (hs : starEach [a, b] X.env = [(false, eval a X.env), (false, eval b X.env)] := by rfl) (hs2 : starEach [b] X.env = [(false, eval b X.env)] := by rfl) : JI C X tg (.Call (.Name "range" p) [a, b] [] pos) (itR2 fa fb) :=
  ji (pi_range2 hg hm (pa_cons ha (pa_cons hb pa_nil hs2) (by rw [hs, hs2])) hs hs2) (evi_range2 ev_of ev_of)
theorem ji_zip {p tpos : Pos} {elts : List Expr} {kk : Nat} (hm : X.mg "zip" = none) (ha : JE C X a fa) (hb : JE C X b fb) (hg : Gl X "zip" := by rfl) (hs : starEach [a, b] X.env = (false, eval a X.env) :: starEach [b] X.env := by rfl) (hs2 : starEach [b] X.env = (false, eval b X.env) :: starEach [] X.env := by rfl) (hpl : (backTo pos (starEach [b] X.env)).any (·.1) = false := by rfl) :
    JI C X (.Tuple elts kk tpos) (.Call (.Name "zip" p) [a, b] [] pos) (itZS fa fb) := ji (RZ.pi_zipA hg hm (pa_cons ha (pa_cons hb pa_nil hs2) hs) hs hpl) (evi_zip ev_of ev_of)
theorem jts_nil : JTs C X [] bYes := jts pts_nil evts_nil
theorem jts_one (h : JT C X c ga) : JTs C X [c] ga := jts (pts_one h) evt_of
theorem je_lc {elt : Expr} {ifs : List Expr} {scope : Scope} {own : List (Str × Nat)} {fi : EL} {g : Tg} {conds : EB} {fe : EX} (hc : X.calm = true) (nd : X.N.Nodup) (hi : JI C X tg it fi) (ho : BlkOk X.N X.env.scope scope own) (hg : ∀ (s : Shared) (H : Hp) (C' : Addr) (cl : List (Str × Addr)) (fp : List Addr), JG C (X.blk s H scope (compEnvC scope cl C' X.env) fp) tg g)
    (ht : ∀ (s : Shared) (H : Hp) (C' : Addr) (cl : List (Str × Addr)) (fp : List Addr), JTs C.quiet (X.blk s H scope (compEnvC scope cl C' X.env) fp) ifs conds) (he : ∀ (s : Shared) (H : Hp) (C' : Addr) (cl : List (Str × Addr)) (fp : List Addr), JE C.quiet (X.blk s H scope (compEnvC scope cl C' X.env) fp) elt fe)
    (hv : ∀ i ∈ slotsT g, i ∈ own.map (·.2)) (hf : ∀ x : Value, foldedSetIterable it X.env x = pure x := by intro _; rfl) : JE C X (.ListComp elt [{ target := tg, iter := it, ifs := ifs, is_async := 0 }] scope pos) (eComp g fi conds fe (own.map (·.2))) :=
  je (pe_lc hc nd hi ho hg ht he hf) (ev_lc evi_of evg_of hv evt_of ev_of)
end
end Lay

set_option Elab.async false
set_option linter.all false
set_option maxRecDepth 100000
set_option maxHeartbeats 2000000
/-! Statements, generator expressions, defs -/
namespace Lay
open PySem PySem.Spec PyProof.Rows L2 GX

section
variable {C : Ct} {X : Cx} {a b c e : Expr} {fa fb fc fe : EX} {pos : Pos} {es : List Expr} {gl : EL} {ga : EB} {f h : ST} {st : Stmt} {sts sts' : List Stmt}
theorem jss_nil : JSs C X [] sNop := jss pss_nil evs_next
theorem jss_cons (h1 : JS C X st f) (h2 : JSs C X sts h) : JSs C X (st :: sts) (sSeq f h) := jss (pss_cons h1 h2) (evs_seq evs_of evs_of)
theorem jss_one (h1 : JS C X st f) : JSs C X [st] f := jss (pss_one h1) evs_of
theorem jss_frz (i : Nat) (h1 : JSs C X sts f) : JSs C X sts (sFrz i f) := jss h1 (evs_frz i evs_of)
theorem js_frz (i : Nat) (h1 : JS C X st f) : JS C X st (sFrz i f) := js h1 (evs_frz i evs_of)
theorem js_clr (vs : List Nat) (h1 : JS C X st f) : JS C X st (sClr vs f) := js h1 (evs_clr vs evs_of)
theorem js_set {i : Nat} {x : Str} {pos' : Pos} (nd : X.N.Nodup) (ha : JE C X e fe) (hi : X.N[i]? = some x := by rfl) (hx : Loc X.env.scope x := by first | exact .inl rfl | exact .inr rfl) (hs : swapsWith e (some (.Name x pos')) pos.line X.env = pure false := by rfl) (hf : X.fn x = true ∨ X.env.scope.names.lookup x = some .local := by first | exact .inl rfl | exact .inr rfl) :
    JS C X (.Assign [.Name x pos'] e pos) (sSet i fe) := js (ps_set nd hi hx ha hs hf) (evs_set ev_of)
/-- y = [..] on one line, y a plain local -/
theorem js_setLc {i : Nat} {y : Str} {py spos : Pos} {elt tg it : Expr} {ifs : List Expr} {scope : Scope} {own : List (Str × Nat)} {fi : EL} {g : Tg} {conds : EB} (hc : X.calm = true) (nd : X.N.Nodup) (hi : JI C X tg it fi) (ho : BlkOk X.N X.env.scope scope own)
    (hg : ∀ (s : Shared) (H : Hp) (C' : Addr) (cl : List (Str × Addr)) (fp : List Addr), JG C (X.blk s H scope (compEnvC scope cl C' X.env) fp) tg g) (ht : ∀ (s : Shared) (H : Hp) (C' : Addr) (cl : List (Str × Addr)) (fp : List Addr), JTs C.quiet (X.blk s H scope (compEnvC scope cl C' X.env) fp) ifs conds)
    (he : ∀ (s : Shared) (H : Hp) (C' : Addr) (cl : List (Str × Addr)) (fp : List Addr), JE C.quiet (X.blk s H scope (compEnvC scope cl C' X.env) fp) elt fe) (hv : ∀ i ∈ slotsT g, i ∈ own.map (·.2)) (hN : X.N[i]? = some y := by rfl) (hy : X.env.scope.names.lookup y = some .local := by rfl)
    (hsw : swapsWith (.ListComp elt [{ target := tg, iter := it, ifs := ifs, is_async := 0 }] scope pos) (some (.Name y py)) spos.line X.env = pure true := by exact sw_true rfl rfl rfl (by decide +kernel)) (hf : ∀ x : Value, foldedSetIterable it X.env x = pure x := by intro _; rfl) :
    JS C X (.Assign [.Name y py] (.ListComp elt [{ target := tg, iter := it, ifs := ifs, is_async := 0 }] scope pos) spos) (sSet i (eComp g fi conds fe (own.map (·.2)))) := js (ps_setLc hc nd hN hy hsw hi ho hg ht he hf) (evs_set (ev_lc evi_of evg_of hv evt_of ev_of))
theorem js_asg {t : Expr} {tg : Tg} (ha : JE C X e fe) (hg : JG C X t tg) (hs : swapsWithSole [t] e pos.line X.env = pure false := by rfl) (hw : swappedStores [t] e X.env = pure none := by rfl) (hm : (assignEach [t] X.env).map (·.2) = [assign t X.env] := by rfl) : JS C X (.Assign [t] e pos) (sAsg tg fe) := js (ps_asg ha hg hs hw hm) (evs_asg ev_of evg_of)
theorem js_own {i : Nat} {x : Str} {pos' p2 : Pos} (nd : X.N.Nodup) (ha : JA C X es gl) (hi : X.N[i]? = some x := by rfl) (hx : Loc X.env.scope x := by first | exact .inl rfl | exact .inr rfl) (hs : swapsWith (.List es p2) (some (.Name x pos')) pos.line X.env = pure false := by rfl) (hf : X.fn x = true ∨ X.env.scope.names.lookup x = some .local := by first | exact .inl rfl | exact .inr rfl) :
    JS C X (.Assign [.Name x pos'] (.List es p2) pos) (sOwn i gl) := js (ps_set nd hi hx (pe_lst ha) hs hf) (evs_own eva_of)
theorem js_app {i : Nat} {x : Str} {p p2 p3 : Pos} (ha : JE C X e fe) (hN : X.N[i]? = some x := by rfl) (hv : Vis X.env.scope x := by first | exact .inl rfl | exact .inr (.inl rfl) | exact .inr (.inr rfl)) (hd : (x == ("__debug__" : Str)) = false := by decide) (hcd : (x == ("__classdict__" : Str)) = false := by decide)
    (hc : attributeBase (.Name x p) "append" X.env (eval (.Name x p) X.env) = eval (.Name x p) X.env := by rfl)
    (hfew : ((backTo p3 (starEach [e] X.env)).all (fun x => !x.1) && (backToKw p3 (keywordEach [] X.env)).all (fun x => x.1.isSome) && decide ([e].length + ([] : List Keyword).length + (if ([] : List Keyword).isEmpty then 0 else 1) < 30)) = true := by rfl)
    (hline : (p2.endLine == p3.line) = true := by rfl)
    (he : starEach [e] X.env = (false, eval e X.env) :: starEach [] X.env := by rfl) (hpl : (backTo p3 (starEach [] X.env)).any (·.1) = false := by rfl) (hs : swapsWith (.Call (.Attribute (.Name x p) "append" p2) [e] [] p3) none pos.line X.env = pure false := by rfl) :
    JS C X (.Expr (.Call (.Attribute (.Name x p) "append" p2) [e] [] p3) pos) (sApp i fe) := js (ps_expr (pe_bm PySem.F.plainAttrs_list PySem.F.slot_list_append PySem.F.type_list_append mt_append (pe_var hN hv hd hcd) (pa_cons ha pa_nil he) hc hfew hline he hpl) hs) (evs_app ev_of)
theorem js_ext {i : Nat} {x : Str} {p p2 p3 : Pos} (ha : JE C X e fe) (hN : X.N[i]? = some x := by rfl) (hv : Vis X.env.scope x := by first | exact .inl rfl | exact .inr (.inl rfl) | exact .inr (.inr rfl)) (hd : (x == ("__debug__" : Str)) = false := by decide) (hcd : (x == ("__classdict__" : Str)) = false := by decide)
    (hc : attributeBase (.Name x p) "extend" X.env (eval (.Name x p) X.env) = eval (.Name x p) X.env := by rfl)
    (hfew : ((backTo p3 (starEach [e] X.env)).all (fun x => !x.1) && (backToKw p3 (keywordEach [] X.env)).all (fun x => x.1.isSome) && decide ([e].length + ([] : List Keyword).length + (if ([] : List Keyword).isEmpty then 0 else 1) < 30)) = true := by rfl)
    (hline : (p2.endLine == p3.line) = true := by rfl)
    (he : starEach [e] X.env = (false, eval e X.env) :: starEach [] X.env := by rfl) (hpl : (backTo p3 (starEach [] X.env)).any (·.1) = false := by rfl) (hs : swapsWith (.Call (.Attribute (.Name x p) "extend" p2) [e] [] p3) none pos.line X.env = pure false := by rfl) :
    JS C X (.Expr (.Call (.Attribute (.Name x p) "extend" p2) [e] [] p3) pos) (sExt i fe) := js (ps_expr (pe_bm PySem.F.plainAttrs_list PySem.F.slot_list_extend PySem.F.type_list_extend mt_extend (pe_var hN hv hd hcd) (pa_cons ha pa_nil he) hc hfew hline he hpl) hs) (evs_ext ev_of)
theorem js_setIx {i : Nat} {x : Str} {p p2 : Pos} (hb : JE C X b fb) (ha : JE C X e fe) (hN : X.N[i]? = some x := by rfl) (hv : Vis X.env.scope x := by first | exact .inl rfl | exact .inr (.inl rfl) | exact .inr (.inr rfl)) (hd : (x == ("__debug__" : Str)) = false := by decide) (hcd : (x == ("__classdict__" : Str)) = false := by decide)
    (hset : ∀ v, assign (.Subscript (.Name x p) b p2) X.env v = (do
      let ov ← holding [v] (eval (.Name x p) X.env)
      let iv ← holding [v, ov] (eval b X.env)
      standAt p2
      holding [v, ov, iv] (setItem ov iv v)
      release [v, ov, iv] []) := by intro _; rfl)
    (hs : swapsWithSole [.Subscript (.Name x p) b p2] e pos.line X.env = pure false := by rfl) (hw : swappedStores [.Subscript (.Name x p) b p2] e X.env = pure none := by rfl) (hm : (assignEach [.Subscript (.Name x p) b p2] X.env).map (·.2) = [assign (.Subscript (.Name x p) b p2) X.env] := by rfl) :
    JS C X (.Assign [.Subscript (.Name x p) b p2] e pos) (sSetIx i fb fe) := js (ps_asg ha (pg_sub (pe_var hN hv hd hcd) hb set_list hset) hs hw hm) (evs_setIx ev_of ev_of)
theorem js_par {i j : Nat} {x y : Str} {px py pt pt2 : Pos} {kt k2 : Nat} (hc : X.calm = true) (nd : X.N.Nodup) (ha : JE C X a fa) (hb : JE C X b fb) (hi : X.N[i]? = some x := by rfl) (hj : X.N[j]? = some y := by rfl) (hij : i ≠ j := by decide) (hx : X.env.scope.names.lookup x = some .local := by rfl) (hy : X.env.scope.names.lookup y = some .local := by rfl)
    (s1 : starEach [a, b] X.env = (false, eval a X.env) :: starEach [b] X.env := by rfl) (s2 : starEach [b] X.env = (false, eval b X.env) :: starEach [] X.env := by rfl)
    (hsw : swappedStores [.Tuple [.Name x px, .Name y py] kt pt] (.Tuple [a, b] k2 pt2) X.env = pure (some [x, y]) := by rfl) (hs : swapsWithSole [.Tuple [.Name x px, .Name y py] kt pt] (.Tuple [a, b] k2 pt2) pos.line X.env = pure false := by rfl) :
    JS C X (.Assign [.Tuple [.Name x px, .Name y py] kt pt] (.Tuple [a, b] k2 pt2) pos) (sPar i j fa fb) := js (ps_par hc nd hi hj hij hx hy (pa_cons ha (pa_cons hb pa_nil s2) s1) hsw hs) (evs_par ev_of ev_of)
theorem js_par3 {i j l : Nat} {x y z : Str} {px py pz pt pt2 : Pos} {kt k2 : Nat} (hc : X.calm = true) (nd : X.N.Nodup) (ha : JE C X a fa) (hb : JE C X b fb) (hcc : JE C X c fc) (hi : X.N[i]? = some x := by rfl) (hj : X.N[j]? = some y := by rfl) (hl : X.N[l]? = some z := by rfl) (hij : i ≠ j := by decide) (hil : i ≠ l := by decide) (hjl : j ≠ l := by decide)
    (hx : X.env.scope.names.lookup x = some .local := by rfl) (hy : X.env.scope.names.lookup y = some .local := by rfl) (hz : X.env.scope.names.lookup z = some .local := by rfl)
    (s0 : starEach [a, b, c] X.env = (false, eval a X.env) :: starEach [b, c] X.env := by rfl) (s1 : starEach [b, c] X.env = (false, eval b X.env) :: starEach [c] X.env := by rfl) (s2 : starEach [c] X.env = (false, eval c X.env) :: starEach [] X.env := by rfl)
    (hsw : swappedStores [.Tuple [.Name x px, .Name y py, .Name z pz] kt pt] (.Tuple [a, b, c] k2 pt2) X.env = pure (some [x, y, z]) := by rfl) (hs : swapsWithSole [.Tuple [.Name x px, .Name y py, .Name z pz] kt pt] (.Tuple [a, b, c] k2 pt2) pos.line X.env = pure false := by rfl) :
    JS C X (.Assign [.Tuple [.Name x px, .Name y py, .Name z pz] kt pt] (.Tuple [a, b, c] k2 pt2) pos) (sPar3 i j l fa fb fc) := js (ps_par3 hc nd hi hj hl hij hil hjl hx hy hz (pa_cons ha (pa_cons hb (pa_cons hcc pa_nil s2) s1) s0) hsw hs) (evs_par3 ev_of ev_of ev_of)
theorem js_aug {i : Nat} {x : Str} {pos' : Pos} {o : Operator} {r : R2} {op : D → D → Option D} (nd : X.N.Nodup) (k : OpR X (inplaceOp o) r) (hr : Raw2 C r op) (ha : JE C X e fe) (hi : X.N[i]? = some x := by rfl) (hx : Loc X.env.scope x := by first | exact .inl rfl | exact .inr rfl) (hf : X.fn x = true ∨ X.env.scope.names.lookup x = some .local := by first | exact .inl rfl | exact .inr rfl) :
    JS C X (.AugAssign (.Name x pos') o e pos) (sAug i op fe) := js (ps_aug nd hi hx ha k hf) (evs_aug hr ev_of)
theorem js_exp (ha : JE C X e fe) (hs : swapsWith e none pos.line X.env = pure false := by rfl) : JS C X (.Expr e pos) (sExp fe) := js (ps_expr ha hs) (evs_exp ev_of)
theorem js_if (hc : JT C X c ga) (h1 : JSs C X sts f) (h2 : JSs C X sts' h) : JS C X (.If c sts sts' pos) (sIf ga f h) := js (ps_if hc h1 h2) (evs_if evt_of evs_of evs_of)
theorem js_ret (ha : JE C X e fe) : JS C X (.Return (some e) pos) (sRet fe) := js (ps_ret ha) (evs_ret ev_of)
theorem js_retN : JS C X (.Return none pos) sRetN := js ps_retN evs_retN
theorem js_brk : JS C X (.Break pos) sBrk := js ps_break evs_brk
theorem js_cnt : JS C X (.Continue pos) sCnt := js ps_continue evs_cnt
theorem js_for {tg it : Expr} {fi : EL} {g : Tg} (vs : List Nat) (hp : PassesOwn (model X.prog X.w) X.A X.env X.xe) (hc : X.calm = true) (hi : JI C X tg it fi) (hg : JG C X tg g) (hb : JSs C X sts f) (hf : ∀ x : Value, foldedSetIterable it X.env x = pure x := by intro _; rfl) : JS C X (.For tg it sts [] pos) (sFor g fi vs f) :=
  js (ps_for hp hc hi hg hb hf) (evs_for evi_of evg_of evs_of)
theorem js_wh (n : Nat) (hp : PassesOwn (model X.prog X.w) X.A X.env X.xe) (hc : JT C X c ga) (hb : JSs C X sts f) : JS C X (.While c sts [] pos) (sWh n ga f) := js (ps_while hp hc hb) (evs_wh evt_of evs_of)
/-! ### raise -/
/-- what the written part says of the error's class -/
structure BadX (P : Program) (w : World) (K : PySem.W.Frag) (mg : Str → Option Value) (base : Heap) (x : Str) (CB : Addr) : Prop where
  T : OexC K CB
  g : mg x = some (.ref CB)
  F : ∃ fI fd, PySem.W.findIn K (.ref CB) "__init__" = some (some (.ref fI)) ∧ PySem.W.typeIn K (.ref fI) = some (.type "function") ∧ FnOk P w K mg base (L2.CX P w) 1 fI fd ["self", "name"] (spBI CB) ∧ L2.Binds K fd ["self", "name"] []
theorem js_raise {x : Str} {p : Pos} {k' : Nat} {p2 : Pos} (B : BadX X.prog X.w X.K X.mg X.base x C.G.CB) (hc : X.calm = true) (tk : Takes X fun cls d _ H => C.E cls d H) (px : Passes (L2.CX X.prog X.w) X fun _ _ _ => False) (hr : Room k' X.A) (ha : JE C X e fe) (hk : 2 ≤ k' := by decide) (hg : Gl X x := by rfl) (hdb : (x == ("__debug__" : Str)) = false := by decide)
    (he : starEach [e] X.env = (false, eval e X.env) :: starEach [] X.env := by rfl) (hpl : (backTo p2 (starEach [] X.env)).any (·.1) = false := by rfl) : JS C X (.Raise (some (.Call (.Name x p) [e] [] p2)) none pos) (sRaise fe) := by
  obtain ⟨fI, fd, h1, h2, F, hb⟩ := B.F
  exact js (ps_raise hc tk (pmk_oex B.T h1 h2 F (hr.mono hk) hb .nil px hg B.g (pa_cons ha pa_nil he) hdb he hpl)) (evs_raise ev_of)
/-! ### all(.. for ..) -/
theorem je_all {k k' : Nat} {cc P : Addr} {elt tg it : Expr} {p gpos : Pos} {scope : Scope} {N' : List Str} {cap : List Nat} {fi : EL} {g : Tg} {fe : EX} (hc : X.calm = true) (hr : Room k' X.A) (hm : X.mg "all" = none) (TB : LamX.TabB X.base X.mg cc P) (hcode : X.env.code = .ref cc) (hP : P ∈ C.G.tabs) (hl : P ≠ C.G.lt)
    (ok : GxOk X.N N' X.env.scope scope cap) (hi : JI C X tg it fi)
    (hg : ∀ (A : Around) (s : Shared) (H : Hp) (cl : List (Str × Addr)) (C' : Addr) (cv : Value) (fp : List Addr) (pn : List (Addr × Obj)), Room k A → JG C (gxCx X A s H N' (genEnv scope cl C' cv builtinsNs X.env) fp pn) tg g)
    (he : ∀ (A : Around) (s : Shared) (H : Hp) (cl : List (Str × Addr)) (C' : Addr) (cv : Value) (fp : List Addr) (pn : List (Addr × Obj)), Room k A → JE C.quiet (gxCx X A s H N' (genEnv scope cl C' cv builtinsNs X.env) fp pn) elt fe)
    (hv : ∀ i ∈ slotsT g, cap.length ≤ i) (hk : k + 2 ≤ k' := by decide) (hga : Gl X "all" := by rfl) (hf : ∀ v : Value, genFold it X.env v = pure v := by intro _; rfl)
    (hs : starEach [.GeneratorExp elt [{ target := tg, iter := it, ifs := [], is_async := 0 }] scope gpos] X.env = (false, eval (.GeneratorExp elt [{ target := tg, iter := it, ifs := [], is_async := 0 }] scope gpos) X.env) :: starEach [] X.env := by rfl) :
    JE C X (.Call (.Name "all" p) [.GeneratorExp elt [{ target := tg, iter := it, ifs := [], is_async := 0 }] scope gpos] [] pos) (eAll g fi fe cap N'.length) :=
  je (pe_allG hc (hr.mono hk) hga hm ⟨TB.code, TB.bm, TB.gP⟩ hcode ok hi hg he hf hs) (ev_all hP hl evi_of evg_of hv ev_of)
end
end Lay

set_option Elab.async false
set_option linter.all false
set_option maxRecDepth 100000
set_option maxHeartbeats 2000000
/-! A def by its body -/
namespace Lay
open PySem PySem.Spec PyProof.Rows L2

/-- a def as the written part tells it, its code object at cd -/
structure DefAt (K : PySem.W.Frag) (mg : Str → Option Value) (x : Str) (st : Stmt) (cd : Addr) : Prop where
  ex : ∃ (f : Addr) (oc : Value) (od : Option Addr) (kV doc pm : Value) (an : Option Addr) (ct : Value) (osl : Array (Option Value)), mg x = some (.ref f) ∧ PySem.W.keepIn K (.ref f) = true ∧
    K.lookup f = some ⟨oc, od, .func (PySem.W.fnOf x x (defArgs st) (defBody st) (defScope st) .none kV doc pm an (.ref cd) ct), osl⟩ ∧ PySem.W.codeIn K (.ref cd) x = true
structure CalF (P : Program) (w : World) (K : PySem.W.Frag) (mg : Str → Option Value) (base : Heap) (k : Nat) (x : Str) (st : Stmt) (ps : List Str) (sp : Sp) : Prop where
  ex : ∃ (f : Addr) (kV doc pm : Value) (an : Option Addr) (cdv ct : Value), FnOk P w K mg base (L2.CX P w) k f (PySem.W.fnOf x x (defArgs st) (defBody st) (defScope st) .none kV doc pm an cdv ct) ps sp ∧ mg x = some (.ref f) ∧ PySem.W.keepIn K (.ref f) = true
section
variable {P : Program} {w : World} {K : PySem.W.Frag} {mg : Str → Option Value} {base : Heap} {k : Nat} {x : Str} {st : Stmt} {ps : List Str} {sp : Sp}
theorem CalF.call (T : CalF P w K mg base k x st ps sp) (h : ∀ (kV doc pm : Value) (an : Option Addr) (cdv ct : Value) (us : List Value), us.length = ps.length → bindArgs (PySem.W.fnOf x x (defArgs st) (defBody st) (defScope st) .none kV doc pm an cdv ct) ⟨us, []⟩ = pure (ps.zip us)) : CalX P w K mg base k x sp := by
  obtain ⟨f, kV, doc, pm, an, cdv, ct, F, hm, hk⟩ := T.ex
  exact ⟨f, _, ps, F, hm, hk, .all (h kV doc pm an cdv ct)⟩
theorem gk_vals {n : Nat} {vs : List V} {us : List Value} {zs : List V} {ws : List Value} (h : Vals vs us) (h' : Vals zs ws) : Vals (gk n vs zs) (gk n us ws) := by
  unfold gk
  rw [h'.length]
  split
  · exact h.append h'
  · exact .nil
theorem CalF.callK {ks : List Str} {n : Nat} (T : CalF P w K mg base k x st ps sp) (hn : n + ks.length = ps.length) (hp : ps.length ≠ 0)
    (h : ∀ (kV doc pm : Value) (an : Option Addr) (cdv ct : Value) (us ws : List Value), us.length = n → ws.length = ks.length → bindArgs (PySem.W.fnOf x x (defArgs st) (defBody st) (defScope st) .none kV doc pm an cdv ct) ⟨us, ks.zip ws⟩ = pure (ps.zip (us ++ ws))) : CalK P w K mg base k x ks sp := by
  obtain ⟨f, kV, doc, pm, an, cdv, ct, F, hm, hk⟩ := T.ex
  refine ⟨f, _, ps, F, hm, hk, ⟨fun s us ws _ hl => ?_, fun h h' => gk_vals h h'⟩⟩
  unfold gk at hl ⊢
  split at hl
  · rename_i hw
    rw [if_pos hw]
    rw [List.length_append] at hl
    exact .of_eq (h kV doc pm an cdv ct us ws (by omega) hw)
  · exact absurd hl.symm hp
theorem rel_start {G : Gt} {aD : Addr} {F H : Hp} {δ : Dice} {E : XK} {N : List Str} {vs : List V} {σv : List (Option SV)} (hs : Hs G aD F H δ) (hl : σv.length = vs.length) (hv : ∀ (i : Nat) sv, σv[i]? = some (some sv) → ∃ v, vs[i]? = some v ∧ SlotOk ⟨G, aD, F, H, E⟩ F H v sv) (hn : vs.length ≤ N.length) :
    Rel ⟨G, aD, F, H, E⟩ (L2.start N vs) (σv ++ List.replicate (N.length - vs.length) none) F H δ := by
  have at_ : ∀ {i : Nat} {sv : SV}, (σv ++ List.replicate (N.length - vs.length) none)[i]? = some (some sv) → σv[i]? = some (some sv) := fun {i sv} e => by
    by_cases hi : i < σv.length
    · rw [List.getElem?_append_left hi] at e; exact e
    · rw [List.getElem?_append_right (by omega), List.getElem?_replicate] at e
      split at e <;> cases e
  have own0 : ∀ {i : Nat} {ds : List D}, σv[i]? ≠ some (some (.own ds)) := fun {i ds} e => by
    obtain ⟨v, _, a, xs, _, h1, _, h3, _⟩ := hv i _ e
    have h3 : H a = none := h3
    rw [h3] at h1
    cases h1
  have dL0 : ∀ {i : Nat} {kvs : List (List Int × List D)}, σv[i]? ≠ some (some (.dL kvs)) := fun {i kvs} e => by
    obtain ⟨v, _, a, xs, _, h1, _, h3, _⟩ := hv i _ e
    have h3 : H a = none := h3
    rw [h3] at h1
    cases h1
  refine ⟨hs, Step.refl, ⟨hs.dne, fun P hP => hs.tne hP⟩, ?_, fun i sv e => ?_, fun i j ds ds' a e1 e2 => absurd (at_ e1) own0, fun i kvs e => absurd (at_ e) dL0⟩
  · unfold L2.start
    simp [hl]
  · obtain ⟨v, e1, ok⟩ := hv i sv (at_ e)
    refine ⟨v, ?_, ok⟩
    unfold L2.start
    have hi : i < vs.length := (List.getElem?_eq_some_iff.mp e1).1
    rw [List.getElem?_append_left (by simpa using hi), List.getElem?_map, e1]
    rfl
/-- the end of a def -/
theorem post_def {G : Gt} {aD : Addr} {F H : Hp} {E : XK} {Q : VK} {r : Except Str D × Dice} {r' : Except Str Fl × Dice} (p : PostE ⟨G, aD, F, H, E⟩ F H Q r) {m : M Fl} {δ : Dice} (h : M.bind m runF δ = some r) (e : m δ = some r') : PostS ⟨G, aD, F, H, E⟩ F { nx := fun _ H' => Q .non H', rt := Q } r' := by
  unfold M.bind at h
  rw [e] at h
  obtain ⟨y, δ'⟩ := r'
  cases y with
  | error nm => cases (Option.some.inj h).symm; exact p
  | ok fl =>
    cases fl with
    | nx ρ => cases (Option.some.inj h).symm; exact fun σ F' H' R x => p .non F' H' R.hs R.st .non
    | rt d => cases (Option.some.inj h).symm; exact p
    | bk ρ => cases h
    | ct ρ => cases h
theorem def_run {G : Gt} {aD : Addr} {F H : Hp} {E : XK} {Q : VK} {δ : Dice} {r : Except Str D × Dice} {b : ST} {ρ : En} {σ : L2.St} (R : Rel ⟨G, aD, F, H, E⟩ σ ρ F H δ) (h : M.bind (b ρ) runF δ = some r) (p : PostE ⟨G, aD, F, H, E⟩ F H Q r) : tOfS ⟨G, aD, F, H, E⟩ b { nx := fun _ H' => Q .non H', rt := Q } σ H := by
  have : ∃ r', b ρ δ = some r' := by
    unfold M.bind at h
    split at h
    · rename_i e; exact ⟨_, e⟩
    · rename_i e; exact ⟨_, e⟩
    · cases h
  obtain ⟨r', e⟩ := this
  exact ⟨ρ, F, δ, r', R, e, post_def p h e⟩
theorem def_ok {G : Gt} {cd : Addr} {N : List Str} {b : ST} (D : DefAt K mg x st cd) (S : FnScope N ps (defScope st))
    (body : ∀ (f : Addr) (A : Around) (outer : List Env) (s : Shared) (aD : Addr) (F H : Hp) (E : XK), Room k (A.deeper (envOfC x (defScope st) s.heap.objs.size f (.ref cd))) →
      JSs ⟨G, aD, F, H, E⟩ (cxOf (L2.CX P w) P w K mg base N x (defScope st) f (.ref cd) A outer s H E) (defBody st) b) (hN : ps.length ≤ N.length) {np n : Nat} (hp' : ps.length = np := by rfl) (hn' : N.length = n := by rfl) : CalF P w K mg base (k + 1) x st ps (spX G (mkF np n b)) := by
  subst hp'; subst hn'
  obtain ⟨f, oc, od, kV, doc, pm, an, ct, osl, hm, hkp, lk, hcd⟩ := D.ex
  refine ⟨f, kV, doc, pm, an, _, ct, fn_of lk hcd S (fun vs H Q E h => ?_) fun A outer s H vs Q E hr h => ?_, hm, hkp⟩
  · obtain ⟨aD, F, δ, ds, r, hs, rp, e, p⟩ := h
    unfold mkF at e
    split at e
    · rename_i hl; rw [rp.length]; exact hl
    · cases e
  · obtain ⟨aD, F, δ, ds, r, hs, rp, e, p⟩ := h
    unfold mkF at e
    split at e
    · rename_i hl
      refine ⟨_, body f A outer s aD F H E hr, ?_⟩
      have lv : vs.length = ps.length := rp.length.trans hl
      rw [← lv] at e
      refine def_run (rel_start (N := N) (vs := vs) (σv := ds.map fun d => some (.v d)) hs (by rw [List.length_map]; exact rp.length.symm) (fun i sv e => ?_) (by omega)) e p
      rw [List.getElem?_map] at e
      cases hd : ds[i]? with
      | none => rw [hd] at e; cases e
      | some d =>
        rw [hd] at e
        cases e
        exact rp.get hd
    · cases e
/-- .. whose first parameter is the dice -/
theorem def_okD {G : Gt} {cd : Addr} {N : List Str} {b : ST} (D : DefAt K mg x st cd) (S : FnScope N ps (defScope st))
    (body : ∀ (f : Addr) (A : Around) (outer : List Env) (s : Shared) (aD : Addr) (F H : Hp) (E : XK), Room k (A.deeper (envOfC x (defScope st) s.heap.objs.size f (.ref cd))) →
      JSs ⟨G, aD, F, H, E⟩ (cxOf (L2.CX P w) P w K mg base N x (defScope st) f (.ref cd) A outer s H E) (defBody st) b) (hN : ps.length ≤ N.length) (hp : ps.length ≠ 0) {np n : Nat} (hp' : ps.length - 1 = np := by rfl) (hn' : N.length = n := by rfl) : CalF P w K mg base (k + 1) x st ps (spD G (mkD np n b)) := by
  subst hp'; subst hn'
  obtain ⟨f, oc, od, kV, doc, pm, an, ct, osl, hm, hkp, lk, hcd⟩ := D.ex
  refine ⟨f, kV, doc, pm, an, _, ct, fn_of lk hcd S (fun vs H Q E h => ?_) fun A outer s H vs Q E hr h => ?_, hm, hkp⟩
  · obtain ⟨aD, F, δ, ws, ds, r, rfl, hs, rp, e, p⟩ := h
    unfold mkD at e
    split at e
    · rename_i hl; rw [List.length_cons, rp.length]; omega
    · cases e
  · obtain ⟨aD, F, δ, ws, ds, r, rfl, hs, rp, e, p⟩ := h
    unfold mkD at e
    split at e
    · rename_i hl
      refine ⟨_, body f A outer s aD F H E hr, ?_⟩
      have lv : (V.ref aD :: ws).length = ps.length := by rw [List.length_cons, rp.length]; omega
      rw [Nat.sub_sub, Nat.sub_add_cancel (Nat.one_le_iff_ne_zero.mpr hp), ← lv] at e
      refine def_run (rel_start (N := N) (vs := .ref aD :: ws) (σv := some .dice :: ds.map fun d => some (.v d)) hs (by rw [List.length_cons, List.length_cons, List.length_map, rp.length]) (fun i sv e => ?_) (by omega)) (by rw [List.cons_append]; exact e) p
      cases i with
      | zero => cases e; exact ⟨_, rfl, rfl⟩
      | succ i =>
        rw [List.getElem?_cons_succ, List.getElem?_map] at e
        cases hd : ds[i]? with
        | none => rw [hd] at e; cases e
        | some d =>
          rw [hd] at e
          cases e
          obtain ⟨v, e1, r1⟩ := rp.get hd
          exact ⟨v, by rw [List.getElem?_cons_succ]; exact e1, r1⟩
    · cases e
end
end Lay

set_option Elab.async false
set_option linter.all false
set_option maxRecDepth 100000
set_option maxHeartbeats 4000000
/-! x(lambda: ..): told by which error it is refused -/
namespace Lay
open PySem PySem.Spec PyProof.Rows L2 LamX

section
variable {X : Cx} {pins : List (Addr × Obj)} {σ : L2.St} {H : Hp} {s : Shared}
/-- all but the table at P stays -/
def But (P : Addr) (H H1 : Hp) : Prop := ∀ b o, b ≠ P → H b = some o → H1 b = some o
theorem lam_make3 {c P : Addr} {params : Arguments} {body : Expr} {scope : Scope} {pos : Pos} {E : Value → Shared → Prop} {Q : Value → Shared → Prop} (I : Inv X pins σ H s) (TB : TabB X.base X.mg c P) (hcode : X.env.code = .ref c) (hT : TabS H P (X.env.qual ++ "<lambda>"))
    (hdef : defaultsOf params X.env = ([], [])) (hfree : ∀ y ∈ scope.names, y.2 = .free → ∃ c, X.env.cells.lookup y.1 = some c)
    (h : ∀ (f c' : Addr) (pm ctv : Value) (H1 : Hp) (s' : Shared), Inv X pins σ H1 s' → But P H H1 → TabS H1 P (X.env.qual ++ "<lambda>") →
      s'.heap.get? f = some (PySem.W.kla_obj "<lambda>" (X.env.qual ++ "<lambda>") params body scope (cloFrom X.env.cells scope.names []) pm c' ctv) → H1 f = none → f ∉ frs X.stack → H1 c' = some (CodeO c' (X.env.qual ++ "<lambda>")) → Q (.ref f) s') :
    wpAny (model X.prog X.w) X.A (eval (.Lambda params body scope pos) X.env) Q E s := by
  obtain ⟨ps, hP, ht, ha⟩ := hT
  have bm' := TB.bm.keeps I.bk
  have g' := I.mod.glob.keeps I.bk
  have hP' : s.heap.get? P = some ({ cls := .none, data := .fields ps } : Obj) := I.hok P _ hP
  have notF : ∀ f, s.heap.objs.size ≤ f → f ∉ frs X.stack := fun f hf z => by
    rcases List.mem_cons.mp (I.stkSub _ z) with e | e
    · exact absurd I.lt (Nat.not_lt.mpr (by rw [← e]; exact hf))
    · exact I.nofs hf e
  refine PySem.W.kla_eval hdef ?_
  by_cases hc : ∃ cv, codeAmong pos ps.toList = some cv
  · obtain ⟨cv, hc⟩ := hc
    obtain ⟨c', rfl, hco⟩ := ha pos cv hc
    refine PySem.W.kla_makeFunctionHit (mg := X.mg) (c := c) (P := P) (ps := ps) (closure_ok hfree) I.ok.glob g' hcode (TB.code.keeps I.bk) hP' ht hc bm' fun ctv h' tk hx hsz => ?_
    have J : Inv X pins σ H { s with heap := h'.push (PySem.W.kla_obj "<lambda>" (X.env.qual ++ "<lambda>") params body scope (cloFrom X.env.cells scope.names []) ((X.mg "__name__").getD .none) c' ctv), toks := tk } := I.kept fun b o e => Heap.get?_push_of_some _ (hx b o e)
    exact h _ c' _ ctv H _ J (fun _ _ _ e => e) ⟨ps, hP, ht, ha⟩ (Heap.get?_push_size _ rfl) (I.hok.fresh hsz) (notF _ hsz) hco
  · have hc' : codeAmong pos ps.toList = none := by
      cases z : codeAmong pos ps.toList with
      | none => rfl
      | some v => exact absurd ⟨v, z⟩ hc
    refine PySem.W.kla_makeFunction (mg := X.mg) (c := c) (P := P) (ps := ps) (closure_ok hfree) I.ok.glob g' hcode (TB.code.keeps I.bk) hP' ht hc' TB.gP bm' fun c' ctv h' tk hx hge hlt hrec htb => ?_
    obtain ⟨c2, oc, vs, t, e2, hoc, hd, hv⟩ := hrec
    cases e2
    have nC : H c' = none := I.hok.fresh hge
    have big : s.heap.objs.size ≤ h'.objs.size := Nat.le_trans hge (Nat.le_of_lt hlt)
    have J := inv_table (t' := tk) (more := #[rawInt pos.line, rawInt pos.col, .ref c']) (h' := h'.push (PySem.W.kla_obj "<lambda>" (X.env.qual ++ "<lambda>") params body scope (cloFrom X.env.cells scope.names []) ((X.mg "__name__").getD .none) c' ctv)) I hP (fun b o hb e => Heap.get?_push_of_some _ (hx b o hb e)) (Heap.get?_push_of_some _ htb) hge ⟨oc, vs, t, Heap.get?_push_of_some _ hoc, hd, hv⟩
    have B : But P H (upd (upd H P (.tbl (ps ++ #[rawInt pos.line, rawInt pos.col, .ref c']))) c' (CodeO c' (X.env.qual ++ "<lambda>"))) := fun b o nb e => by rw [upd_ne (ne_of_none e nC), upd_ne nb]; exact e
    refine h h'.objs.size c' _ ctv _ _ J B ⟨_, by rw [upd_ne (ne_of_none hP nC), upd_same], ?_, fun p' cv hcv => ?_⟩ (Heap.get?_push_size _ rfl) ?_ (notF _ big) upd_same
    · rw [Array.toList_append]; exact PySem.TriplesOk_snoc _ _ _ _ ht
    · rw [Array.toList_append] at hcv
      rcases among_app _ ht hcv with z | z
      · obtain ⟨c0, e1, e2⟩ := ha p' cv z
        exact ⟨c0, e1, B _ _ (fun z => codeO_ne ps (Option.some.inj (e2.symm.trans (by rw [z]; exact hP)))) e2⟩
      · exact ⟨c', z, upd_same⟩
    · rw [upd_ne (Nat.ne_of_gt hlt), upd_ne (Nat.ne_of_gt (Nat.lt_of_lt_of_le (Heap.lt_size hP') big))]
      exact I.hok.fresh big
end
def tLam1 (P : Addr) (q : Str) (TT : (XK → Hp → VK → Prop) → Hp → VK → Prop) (t : XK → TE) : TE := fun σ H Q => TabS H P q ∧ ∀ H1, But P H H1 → TabS H1 P q → TT (fun E H' Q' => t E σ H' Q') H1 Q
section
variable {X : Cx}
theorem pe_lamcall1 {TT : (XK → Hp → VK → Prop) → Hp → VK → Prop} {x a : Str} {g c P : Addr} {k : Nat} {pg : Arguments} {bg : List Stmt} {sg : Scope} {dV kV doc pm cdv ct oc : Value} {an od : Option Addr} {osl : Array (Option Value)} {Ng : List Str}
    {params : Arguments} {body : Expr} {scope : Scope} {t : XK → TE} {p lpos pos : Pos} (hg : Gl X x) (hm : X.mg x = some (.ref g)) (hk : PySem.W.keepIn X.K (.ref g) = true)
    (lk : X.K.lookup g = some ⟨oc, od, .func (PySem.W.fnOf x x pg bg sg dV kV doc pm an cdv ct), osl⟩) (hcg : PySem.W.codeIn X.K cdv x = true) (hb : L2.Binds X.K (PySem.W.fnOf x x pg bg sg dV kV doc pm an cdv ct) [a] []) (Sg : FnScope Ng [a] sg) (hNg : Ng[0]? = some a) (hva : Vis sg a)
    (hG : GivesTo X Ng x sg g cdv bg a (X.env.qual ++ "<lambda>") TT) (TB : TabB X.base X.mg c P) (hcode : X.env.code = .ref c) (hr : Room (k + 2) X.A) (L : LamS X.env.scope scope) (hdef : defaultsOf params X.env = ([], []))
    (hbind : ∀ (q : Str) (cl : List (Str × Addr)) (pm cv ctv : Value), bindArgs (PySem.W.kla_fn "<lambda>" q params body scope cl pm cv ctv) ⟨[], []⟩ = pure [])
    (hbody : ∀ (A : Around) (outer : List Env) (s : Shared) (H : Hp) (E : XK) (f c' : Addr), Room k (A.deeper (lamEnv X scope s.heap.objs.size f c')) → PE (lamCx X A outer s H E scope f c') body (t E))
    (hdb : (x == ("__debug__" : Str)) = false) (hd : (a == ("__debug__" : Str)) = false) (hcd : (a == ("__classdict__" : Str)) = false) :
    PE X (.Call (.Name x p) [.Lambda params body scope lpos] [] pos) (tLam1 P (X.env.qual ++ "<lambda>") TT t) := by
  refine ⟨fun pins s σ H Q I ⟨hT, h⟩ => wpAny_Call_Name_kw (ld_glob I hg hm ?_ hdb)⟩
  refine PySem.W.callWith_K (h₀ := X.base) I.ok.mod.kin hk ?_ (by rfl) (by rfl)
  show wpAny _ _ (spliced [(false, eval (.Lambda params body scope lpos) X.env)]) _ _ s
  refine Calls.spliced_cons (lam_make3 I TB hcode hT hdef (L.has I.ok) fun f c' pm' ctv H1 s' I1 eN T1 hf hfn hfr hco => Calls.spliced_nil ⟨I1.kIn, ?_⟩)
  have rc : codeAny (model X.prog X.w) X.A (.call (.ref g) ⟨[.ref f], []⟩) (CR C8.CX0 X.stack X.prog X.w H1 s' Q C8.E0) s' :=
    run_ofS (N := Ng) (ps := [a]) (us := [.ref f]) (vs := [.ref f]) lk hcg Sg hr I1.env0 (hb s' [.ref f] I1.kIn rfl) (.cons rfl .nil) rfl fun hr' => by
      obtain ⟨t', ht', hq'⟩ := hG f c' s' H1 Q (fun E H' Q' => t E σ H' Q') (fun W pn xe E p1 p2 tk hW => pe_act (i := 0) I1 L hf hfn hfr (hbind _ _ _ _ _) tk hW hr' (fun A outer s H hr2 => hbody A outer s H E f c' hr2) hNg hva hd hcd) hco (h H1 eN T1)
      exact ⟨t', ht'.nox, hq'⟩
  refine wpAny_call (codeAny_mono rc fun r s2 hq => ?_)
  rcases r with e | (u | _ | _ | _)
  · exact (show False from hq).elim
  all_goals first | exact I1.after hq | exact False.elim hq
/-- what is told: the error's name, or the empty text -/
def TTr (K : PySem.W.Frag) (CS : Addr) : (XK → Hp → VK → Prop) → Hp → VK → Prop := fun tl H Q =>
  tl (fun cls d H' => cls = .ref CS ∧ ∃ dd nm, d = some dd ∧ H' dd = some (.xd [(("name" : Str), .str nm)]) ∧ Q (.str nm) H') H fun _ H' => Q (.str "") H'
/-- the error's class, for its clause -/
structure SeenX (K : PySem.W.Frag) (CS : Addr) : Prop where
  xf : XfC K CS
  nof : PySem.W.findIn K (.ref CS) "name" = some none
  te : PySem.W.exmOne K (.ref CS) (.ref CS) = some true
theorem takes_len {X : Cx} {W : WX} (t : Takes X W) : Takes X fun cls d σ H => σ.length = X.N.length → W cls d σ H := fun u s' ⟨a, B, sI, pins, σ, H, cls, d, e, I, nb, up, sky, na, os, ag, w⟩ => t u s' ⟨a, B, sI, pins, σ, H, cls, d, e, I, nb, up, sky, na, os, ag, w I.len⟩
theorem told_gives1 {Ng : List Str} {x a e n q : Str} {sg : Scope} {g CS : Addr} {cdg : Value} {j : Nat} {p1 p2 p3 p4 p5 p6 p7 p8 p9 p10 p11 : Pos} (T : SeenX X.K CS) (hge : sg.names.lookup e = some .globalImplicit) (hme : X.mg e = some (.ref CS)) (hde : (e == ("__debug__" : Str)) = false) (nd : Ng.Nodup) (hn : Ng[1]? = some n) (hl : sg.names.lookup n = some .local)
    (h0 : ∀ f : Addr, (L2.start Ng [V.ref f])[0]? = some (some (V.ref f))) (hnd : (n == ("__debug__" : Str)) = false) (hnc : (n == ("__classdict__" : Str)) = false) (hlen : Ng.length = 2)
    (hs : ∀ env : Env, swapsWith (.Call (.Name a p1) [] [] p2) none p3.line env = pure false) (hbs : ∀ env : Env, attributeBase (.Name n p6) "name" env (eval (.Name n p6) env) = eval (.Name n p6) env) :
    GivesTo X Ng x sg g cdg [.Try [.Expr (.Call (.Name a p1) [] [] p2) p3] [.ExceptHandler (some (.Name e p4)) (some n) [.Return (some (.Attribute (.Name n p6) "name" p5)) p7] p8] [] [] p9, .Return (some (.Constant (.str "") j p10)) p11] a q (TTr X.K CS) := by
  intro f c' s H Q tl act hc h
  have hgl : Gl (cxOf C8.CX0 X.prog X.w X.K X.mg X.base Ng x sg g cdg X.A X.stack s H C8.E0).nox e := hge
  refine ⟨_, pss_cons (ps_try_as (X := (cxOf C8.CX0 X.prog X.w X.K X.mg X.base Ng x sg g cdg X.A X.stack s H C8.E0).nox) (c := .ref CS) (i := 1)
      (tb := fun W D σ H => ∃ Ech : XK, (∀ cls d σ' H', Ech cls d H' → σ'.length = Ng.length → W cls d σ' H') ∧ σ[0]? = some (some (.ref f)) ∧ H c' = some (CodeO c' q) ∧ tl Ech H fun _ H' => D.nx σ H')
      rfl rfl nd hn hl ⟨hgl, hde, .inl hme⟩ LamX.takes0 (fun W pn xe tk _ => ?_) (fun a oe cls d pn hz hf => pss_one (ps_ret (pe_xf T.xf T.nof hz hf (pe_var (i := 1) hn (.inl hl) hnd hnc) (hbs _))))) (pss_one (ps_ret pe_str)), ?_⟩
  · refine ⟨fun pins s' σ H' D I h' => ?_⟩
    obtain ⟨Ech, hW, h1, h2, h3⟩ := h'
    have hq := pss_one (ps_expr (pos := p3) (act _ pn xe Ech p1 p2 (takes_len tk) fun cls d σ' H' e l => hW cls d σ' H' e l) (hs _))
    exact hq.run pins s' σ H' D I ⟨h1, h2, h3⟩
  · refine ⟨fun cls d H' => cls = .ref CS ∧ ∃ dd nm, d = some dd ∧ H' dd = some (.xd [(("name" : Str), .str nm)]) ∧ Q (.str nm) H', fun cls d σ' H' ⟨e1, dd, nm, e2, e3, e4⟩ hsl => ⟨true, ?_, fun _ a hl => ?_, fun z => by cases z⟩, h0 f, hc, ?_⟩
    · rw [e1]; exact T.te
    · refine ⟨.ref a, List.getElem?_set_self (by rw [hsl, hlen]; decide), rfl, e1, dd, _, .str nm, e2, e3, by simp [List.lookup], e4⟩
    · exact h
end

def onlyV (ρ : En) : En := ρ.map fun o => match o with
  | some (.v d) => some (.v d)
  | _ => none
/-- by which error it is refused: its name, or the empty text -/
def eTold (f : EX) : EX := fun ρ δ => match f (onlyV ρ) δ with
  | some (.ok _, δ') => some (.ok (.str ""), δ')
  | some (.error nm, δ') => some (.ok (.str nm), δ')
  | none => none
def tFresh (G : Gt) (E : XK) (f : EX) : TE := fun σ H Q => ∃ aD F δ ρ r, Rel ⟨G, aD, F, H, E⟩ σ ρ F H δ ∧ f ρ δ = some r ∧ PostE ⟨G, aD, F, H, E⟩ F H Q r
theorem onlyV_some {ρ : En} {i : Nat} {sv : SV} (h : (onlyV ρ)[i]? = some (some sv)) : ∃ d, sv = .v d ∧ ρ[i]? = some (some (.v d)) := by
  unfold onlyV at h
  rw [List.getElem?_map] at h
  obtain ⟨o, e1, e2⟩ := Option.map_eq_some_iff.mp h
  rw [e1]
  split at e2
  · cases e2; exact ⟨_, rfl, rfl⟩
  · cases e2
theorem Hs.lam {G : Gt} {aD : Addr} {F H H1 : Hp} {δ : Dice} (h : Hs G aD F H δ) (hl : G.lt ∈ G.tabs) (b : But G.lt H H1) (t : TabS H1 G.lt G.lq) : Hs G aD F H1 δ := by
  refine ⟨fun a o e => b a o (fun z => by rw [z, h.tF _ hl] at e; cases e) (h.sub a o e), h.dF, b _ _ (fun z => h.dt (by rw [z]; exact hl)) h.dH, h.tF, fun P hP => ?_⟩
  by_cases e : P = G.lt
  · subst e
    obtain ⟨ps, h1, h2, h3⟩ := t
    exact ⟨ps, h1, h2, fun _ => h3⟩
  · obtain ⟨ps, h1, h2, _⟩ := h.tH P hP
    exact ⟨ps, b _ _ e h1, h2, fun z => absurd z e⟩
theorem Step.lam {G : Gt} {aD : Addr} {F H H1 : Hp} (hl : G.lt ∈ G.tabs) (b : But G.lt H H1) (t : TabS H1 G.lt G.lq) : Step G aD F H F H1 := by
  refine ⟨Ext.refl F, fun _ _ _ _ _ h _ => h, fun a o e _ n => b a o (fun z => n (by rw [z]; exact hl)) e, fun a h => ?_⟩
  by_cases e : a = G.lt
  · obtain ⟨ps, h1, _⟩ := t
    rw [e, h1]; exact fun z => nomatch z
  · cases z : H a with
    | none => exact absurd z h
    | some o => rw [b a o e z]; exact fun z => nomatch z
theorem ev_told {C : Ct} {K : PySem.W.Frag} {f : EX} (hl : C.G.lt ∈ C.G.tabs) : EvE C (tLam1 C.G.lt C.G.lq (TTr K C.G.CB) fun E => tFresh C.G E f) (eTold f) := fun σ ρ F H δ Q r R e p => by
  refine ⟨?_, fun H1 b t => ?_⟩
  · obtain ⟨ps, h1, h2, h3⟩ := R.hs.tH _ hl
    exact ⟨ps, h1, h2, h3 rfl⟩
  have hs1 := R.hs.lam hl b t
  have st1 : Step C.G C.aD F H F H1 := Step.lam hl b t
  unfold eTold at e
  cases hf : f (onlyV ρ) δ with
  | none => rw [hf] at e; cases e
  | some r0 =>
    refine ⟨C.aD, F, δ, onlyV ρ, r0, ⟨hs1, Step.refl, ⟨hs1.dne, fun P hP => hs1.tne hP⟩, by unfold onlyV; rw [List.length_map]; exact R.len, fun i sv h => ?_, fun i j ds ds' a e1 => ?_, fun i kvs e1 => ?_⟩, hf, ?_⟩
    · obtain ⟨d, rfl, h1⟩ := onlyV_some h
      exact R.sl i _ h1
    · obtain ⟨d, z, _⟩ := onlyV_some e1
      cases z
    · obtain ⟨d, z, _⟩ := onlyV_some e1
      cases z
    · rw [hf] at e
      obtain ⟨y, δ'⟩ := r0
      cases y with
      | ok d =>
        cases (Option.some.inj e).symm
        exact fun v F' H' h1 h2 h3 => p (.str "") F' H' h1 (st1.trans h2) (.str "")
      | error nm =>
        cases (Option.some.inj e).symm
        exact fun F' H' dd h1 h2 h3 => ⟨rfl, dd, nm, rfl, h3, p (.str nm) F' H' h1 (st1.trans h2) (.str nm)⟩
theorem je_told {C : Ct} {X : Cx} {x : Str} {c cdr : Addr} {k k' : Nat} {st : Stmt} {params : Arguments} {body : Expr} {scope : Scope} {f : EX} {p lpos pos : Pos} (D : DefAt X.K X.mg x st cdr) (T : SeenX X.K C.G.CB)
    (hb : ∀ (kV doc pm : Value) (an : Option Addr) (cdv ct : Value) (us : List Value), us.length = (["call"] : List Str).length → bindArgs (PySem.W.fnOf x x (defArgs st) (defBody st) (defScope st) .none kV doc pm an cdv ct) ⟨us, []⟩ = pure ((["call"] : List Str).zip us))
    (Sg : FnScope ["call", "e"] ["call"] (defScope st)) (hva : Vis (defScope st) "call") (hG : ∀ (g : Addr) (cdv : Value), GivesTo X ["call", "e"] x (defScope st) g cdv (defBody st) "call" (X.env.qual ++ "<lambda>") (TTr X.K C.G.CB))
    (TB : TabB X.base X.mg c C.G.lt) (hcode : X.env.code = .ref c) (hl : C.G.lt ∈ C.G.tabs) (hq : C.G.lq = X.env.qual ++ "<lambda>") (hr : Room k' X.A) (L : LamS X.env.scope scope)
    (hbody : ∀ (A : Around) (outer : List Env) (s : Shared) (H : Hp) (E : XK) (f' c' : Addr), Room k (A.deeper (lamEnv X scope s.heap.objs.size f' c')) → ∀ (aD : Addr) (F0 H0 : Hp), JE ⟨C.G, aD, F0, H0, E⟩ (lamCx X A outer s H E scope f' c') body f)
    (hk : k + 2 ≤ k' := by decide) (hg : Gl X x := by rfl) (hdef : defaultsOf params X.env = ([], []) := by rfl)
    (hbind : ∀ (q : Str) (cl : List (Str × Addr)) (pm cv ctv : Value), bindArgs (PySem.W.kla_fn "<lambda>" q params body scope cl pm cv ctv) ⟨[], []⟩ = pure [] := by intros; rfl) (hdb : (x == ("__debug__" : Str)) = false := by decide) :
    JE C X (.Call (.Name x p) [.Lambda params body scope lpos] [] pos) (eTold f) := by
  obtain ⟨g, oc, od, kV, doc, pm, an, ct, osl, hm, hkp, lk, hcd⟩ := D.ex
  have h := pe_lamcall1 (p := p) (lpos := lpos) (pos := pos) (t := fun E => tFresh C.G E f) hg hm hkp lk hcd (.all (hb kV doc pm an _ ct)) Sg rfl hva (hG g _) TB hcode (hr.mono hk) L hdef hbind (fun A outer s H E f' c' hr' => ⟨fun pins s' σ H' Q I ⟨aD, F, δ, ρ, r, R, e, q⟩ => (hbody A outer s H E f' c' hr' aD F H').run pins s' σ H' Q I ⟨ρ, F, δ, r, R, e, q⟩⟩) hdb (by decide) (by decide)
  rw [← hq] at h
  exact je h (ev_told hl)
end Lay

set_option Elab.async false
set_option linter.all false
set_option maxRecDepth 100000
set_option maxHeartbeats 2000000
/-! Three comparisons, lists or tuples, sorted, list(range(..)) -/
namespace Lay
open PySem PySem.Spec PyProof.Rows L2

def tChain3 (r1 r2 r3 : R2) (ta tb tc td : TE) : TE := fun σ H Q => ta σ H fun x H1 => tb σ H1 fun y H2 => r1 x y H2 fun z H3 => ∃ k, z = .bl k ∧
  (if k = true then tc σ H3 fun w' H4 => r2 y w' H4 fun z2 H5 => ∃ k2, z2 = .bl k2 ∧ (if k2 = true then td σ H5 fun u H6 => r3 w' u H6 Q else Q (.bl false) H5) else Q (.bl false) H3)
section
variable {X : Cx} {a b c d : Expr} {ta tb tc td : TE} {pos : Pos}
theorem pe_chain3 {o1 o2 o3 : CmpOp} {r1 r2 r3 : R2} (h1 : OpR X (compareOp o1) r1) (h2 : OpR X (compareOp o2) r2) (h3 : OpR X (compareOp o3) r3) (ha : PE X a ta) (hb : PE X b tb) (hc : PE X c tc) (hd : PE X d td)
    (hm : lastMarks [o1, o2, o3] [b, c, d] = false) : PE X (.Compare a [o1, o2, o3] [b, c, d] pos) (tChain3 r1 r2 r3 ta tb tc td) := by
  refine ⟨fun pins s σ H Q I h => Compare_chain (thn (ha.run pins s σ H _ I h) fun v s1 ⟨x, H1, I1, e1, q1⟩ => chain_link (thn (hb.run pins s1 σ H1 _ I1 q1) fun u s2 ⟨y, H2, I2, e2, q2⟩ => thn (h1 pins s2 σ H2 x y v u _ I2 e1 e2 q2) fun g s3 ⟨z, H3, I3, e3, k, ez, q3⟩ => ?_)) hm⟩
  subst ez
  cases e3
  refine wpAny_truthy_bool ?_
  cases k with
  | false => exact ite_ff ⟨.bl false, H3, I3, rfl, q3⟩
  | true =>
    refine ite_tt (chain_link (thn (hc.run pins s3 σ H3 _ I3 q3) fun t s4 ⟨y2, H4, I4, e4, q4⟩ => thn (h2 pins s4 σ H4 y y2 u t _ I4 e2 e4 q4) fun g2 s5 ⟨z2, H5, I5, e5, k2, ez2, q5⟩ => ?_))
    subst ez2
    cases e5
    refine wpAny_truthy_bool ?_
    cases k2 with
    | false => exact ite_ff ⟨.bl false, H5, I5, rfl, q5⟩
    | true => exact ite_tt (chain_last (thn (hd.run pins s5 σ H5 _ I5 q5) fun t2 s6 ⟨y3, H6, I6, e6, q6⟩ => h3 pins s6 σ H6 y2 y3 t t2 Q I6 e4 e6 q6))
end
section
variable {C : Ct} {X : Cx} {ta tb tc td : TE} {fa fb fc fd : EX}
theorem bool_cases {β : Type} {o : Option D} {δ : Dice} {k : D → M β} {r : Except Str β × Dice} (h : M.bind (M.lift o) k δ = some r) : ∃ z, o = some z ∧ k z δ = some r := by
  rcases M.bind_some h with ⟨z, δ', e1, e2⟩ | ⟨nm, δ', e1, e2⟩
  · obtain ⟨z', e3, e4⟩ := M.lift_some e1
    cases e4
    exact ⟨_, e3, e2⟩
  · obtain ⟨_, _, q⟩ := M.lift_some e1
    cases q
theorem ev_chain3 {r1 r2 r3 : R2} {o1 o2 o3 : D → D → Option D} (h1 : Raw2 C r1 o1) (h2 : Raw2 C r2 o2) (h3 : Raw2 C r3 o3) (ha : EvE C ta fa) (hb : EvE C tb fb) (hc : EvE C tc fc) (hd : EvE C td fd) : EvE C (tChain3 r1 r2 r3 ta tb tc td) (eChain3 o1 o2 o3 fa fb fc fd) := fun σ ρ F H δ Q r R e p =>
  ha.then R e p.err fun d δ1 v F1 H1 e1 R1 s1 rp => hb.then R1 e1 p.err fun d2 δ2 v2 F2 H2 e2 R2 s2 rp2 => by
    obtain ⟨z, e3, e4⟩ := bool_cases e2
    refine h1 F2 H2 δ2 v v2 d d2 z _ R2.hs (rp.mono s2.ex) rp2 e3 fun w F3 H3 hs3 s3 rp3 => ?_
    cases z with
    | bool b =>
      refine ⟨b, rp_bool rp3, ?_⟩
      cases b with
      | true =>
        refine iteT ?_
        refine hc.then (R2.step hs3 s3) e4 p.err fun d4 δ4 v4 F4 H4 e7 R4 s4 rp4 => ?_
        obtain ⟨z2, e8, e9⟩ := bool_cases e7
        refine h2 F4 H4 δ4 v2 v4 d2 d4 z2 _ R4.hs ((rp2.mono s3.ex).mono s4.ex) rp4 e8 fun w5 F5 H5 hs5 s5 rp5 => ?_
        cases z2 with
        | bool b2 =>
          refine ⟨b2, rp_bool rp5, ?_⟩
          cases b2 with
          | true =>
            refine iteT ?_
            refine hd.then (R4.step hs5 s5) e9 p.err fun d6 δ6 v6 F6 H6 e10 R6 s6 rp6 => ?_
            obtain ⟨z3, e11, rfl⟩ := M.lift_some e10
            exact h3 F6 H6 δ6 v4 v6 d4 d6 z3 Q R6.hs ((rp4.mono s5.ex).mono s6.ex) rp6 e11 (p.mono (((((s1.trans s2).trans s3).trans s4).trans s5).trans s6))
          | false =>
            refine iteF ?_
            cases (Option.some.inj e9).symm
            exact (p.mono ((((s1.trans s2).trans s3).trans s4).trans s5)).val hs5 (.bl false)
        | _ => cases e9
      | false =>
        refine iteF ?_
        cases (Option.some.inj e4).symm
        exact (p.mono ((s1.trans s2).trans s3)).val hs3 (.bl false)
    | _ => cases e4
theorem je_chain3 {a b c d : Expr} {pos : Pos} {o1 o2 o3 : CmpOp} {r1 r2 r3 : R2} {p1 p2 p3 : D → D → Option D} (h1 : OpR X (compareOp o1) r1) (k1 : Raw2 C r1 p1) (h2 : OpR X (compareOp o2) r2) (k2 : Raw2 C r2 p2) (h3 : OpR X (compareOp o3) r3) (k3 : Raw2 C r3 p3)
    (ha : JE C X a fa) (hb : JE C X b fb) (hc : JE C X c fc) (hd : JE C X d fd) (hm : lastMarks [o1, o2, o3] [b, c, d] = false := by with_unfolding_all rfl) : JE C X (.Compare a [o1, o2, o3] [b, c, d] pos) (eChain3 p1 p2 p3 fa fb fc fd) := je (pe_chain3 h1 h2 h3 ha hb hc hd hm) (ev_chain3 k1 k2 k3 ev_of ev_of ev_of ev_of)
/-! ### one or the other -/
theorem je_or2 {e : Expr} {f f1 f2 : EX} (h1 : JE C X e f1) (h2 : JE C X e f2) (h : ∀ ρ δ r, f ρ δ = some r → f1 ρ δ = some r ∨ f2 ρ δ = some r) : JE C X e f := ⟨fun pins s σ H Q I ⟨ρ, F, δ, r, R, e, p⟩ => by
  rcases h ρ δ r e with q | q
  · exact h1.run pins s σ H Q I ⟨ρ, F, δ, r, R, q, p⟩
  · exact h2.run pins s σ H Q I ⟨ρ, F, δ, r, R, q, p⟩⟩
theorem ji_or2 {tg it : Expr} {f f1 f2 : EL} (h1 : JI C X tg it f1) (h2 : JI C X tg it f2) (h : ∀ ρ δ r, f ρ δ = some r → f1 ρ δ = some r ∨ f2 ρ δ = some r) : JI C X tg it f := ⟨fun pins s σ H Q I ⟨ρ, F, δ, r, R, e, p⟩ => by
  rcases h ρ δ r e with q | q
  · exact h1.run pins s σ H Q I ⟨ρ, F, δ, r, R, q, p⟩
  · exact h2.run pins s σ H Q I ⟨ρ, F, δ, r, R, q, p⟩⟩
/-- a list or a tuple -/
def itS (a : EX) : EL := fun ρ => M.bind (a ρ) fun x => match x with
  | .list ds => M.pure ds
  | .tuple ds => M.pure ds
  | _ => M.stuck
theorem ji_seq {tg it : Expr} {f : EX} (h : JE C X it f) : JI C X tg it (itS f) := ji_or2 (ji_list h) (ji_tup h) fun ρ δ r e => by
  unfold itS at e
  unfold itL itT
  rcases M.bind_some e with ⟨x, δ1, e1, e2⟩ | ⟨nm, δ1, e1, e2⟩
  · cases x with
    | list ds => exact .inl (by unfold M.bind; rw [e1]; exact e2)
    | tuple ds => exact .inr (by unfold M.bind; rw [e1]; exact e2)
    | _ => cases e2
  · subst e2
    exact .inl (by unfold M.bind; rw [e1])
/-! ### a tuple, several times -/
def rMulA (K : PySem.W.Frag) : R2 := fun x y H Q => rMulD K x y H Q ∨ rRepT K x y H Q
theorem op_mulA : OpR X (binaryOp .Mult) (rMulA X.K) := op_mulD.or op_repT
def dMulA : D → D → Option D
  | .tuple xs, .int k => if 2 ≤ k ∧ k ≤ 1000 ∧ xs.length ≤ 1000 ∧ xs ≠ [] then some (.tuple (List.replicate k.toNat xs).flatten) else none
  | x, y => dMulL x y
theorem raw_mulA {K : PySem.W.Frag} : Raw2 C (rMulA K) dMulA := fun F H δ x y d e z Q hs rx ry o p => by
  cases rx with
  | @tup a xs ds h1 r1 =>
    cases ry with
    | int k =>
      unfold dMulA at o
      dsimp only at o
      split at o
      · rename_i hl
        cases (Option.some.inj o)
        obtain ⟨l1, l2, l3, l4⟩ := hl
        exact .inr ⟨a, k, xs, rfl, rfl, SqT.of (hs.sub _ _ h1), fun z => l4 (r1.nil_iff.mp z), l1, l2, by rw [r1.length]; exact l3, fun q nq => p.tuple hs nq (r1.rep _)⟩
      · cases o
    | _ => cases o
  | int i => exact .inl (raw_mul F H δ _ _ _ _ _ _ hs (.int i) ry (by cases ry <;> exact o) p)
  | @lst a xs ds h1 r1 => exact .inl (raw_mul F H δ _ _ _ _ _ _ hs (.lst h1 r1) ry (by cases ry <;> exact o) p)
  | _ => cases ry <;> cases o
/-! ### sorted -/
def insI (x : Int) : List Int → List Int
  | [] => [x]
  | y :: ys => if x ≤ y then x :: y :: ys else y :: insI x ys
def sortI : List Int → List Int
  | [] => []
  | x :: xs => insI x (sortI xs)
theorem insI_perm (x : Int) : ∀ l, (insI x l).Perm (x :: l)
  | [] => .refl _
  | y :: ys => by
    unfold insI
    split
    · exact .refl _
    · exact ((insI_perm x ys).cons y).trans (.swap x y ys)
theorem sortI_perm : ∀ l, (sortI l).Perm l
  | [] => .refl _
  | x :: xs => (insI_perm x _).trans ((sortI_perm xs).cons x)
theorem insI_sorted (x : Int) : ∀ l, l.Pairwise (· ≤ ·) → (insI x l).Pairwise (· ≤ ·)
  | [], _ => List.pairwise_singleton _ _
  | y :: ys, h => by
    unfold insI
    have h' := List.pairwise_cons.mp h
    split
    · rename_i hl
      refine List.pairwise_cons.mpr ⟨fun z hz => ?_, h⟩
      rcases List.mem_cons.mp hz with rfl | hz
      · exact hl
      · have := h'.1 z hz; omega
    · rename_i hl
      refine List.pairwise_cons.mpr ⟨fun z hz => ?_, insI_sorted x ys h'.2⟩
      rcases List.mem_cons.mp ((insI_perm x ys).mem_iff.mp hz) with rfl | hz
      · omega
      · exact h'.1 z hz
theorem sortI_sorted : ∀ l, (sortI l).Pairwise (· ≤ ·)
  | [] => .nil
  | x :: xs => insI_sorted x _ (sortI_sorted xs)
theorem sorted_uniq {α : Type} {R : α → α → Prop} (anti : ∀ a b, R a b → R b a → a = b) : ∀ {l m : List α}, l.Pairwise R → m.Pairwise R → l.Perm m → l = m
  | [], m, _, _, h => h.nil_eq
  | x :: xs, [], _, _, h => by simpa using h.length_eq
  | x :: xs, y :: ys, h1, h2, h => by
    have a := List.pairwise_cons.mp h1
    have b := List.pairwise_cons.mp h2
    have e : x = y := by
      rcases List.mem_cons.mp (h.mem_iff.mp List.mem_cons_self) with e | e
      · exact e
      · rcases List.mem_cons.mp (h.mem_iff.mpr (List.mem_cons_self (a := y))) with e' | e'
        · exact e'.symm
        · exact anti x y (a.1 y e') (b.1 x e)
    subst e
    rw [sorted_uniq anti a.2 b.2 h.cons_inv]
def leP (p q : Int × Int) : Bool := !SrtO.lexB q p
def insP (x : Int × Int) : List (Int × Int) → List (Int × Int)
  | [] => [x]
  | y :: ys => if leP x y = true then x :: y :: ys else y :: insP x ys
def sortP : List (Int × Int) → List (Int × Int)
  | [] => []
  | x :: xs => insP x (sortP xs)
theorem leP_iff {p q : Int × Int} : leP p q = true ↔ p.1 < q.1 ∨ (p.1 = q.1 ∧ p.2 ≤ q.2) := by
  unfold leP
  rw [Bool.not_eq_true', SrtO.lexB_no]
  omega
theorem insP_perm (x : Int × Int) : ∀ l, (insP x l).Perm (x :: l)
  | [] => .refl _
  | y :: ys => by
    unfold insP
    split
    · exact .refl _
    · exact ((insP_perm x ys).cons y).trans (.swap x y ys)
theorem sortP_perm : ∀ l, (sortP l).Perm l
  | [] => .refl _
  | x :: xs => (insP_perm x _).trans ((sortP_perm xs).cons x)
theorem insP_sorted (x : Int × Int) : ∀ l, l.Pairwise (fun p q => leP p q = true) → (insP x l).Pairwise (fun p q => leP p q = true)
  | [], _ => List.pairwise_singleton _ _
  | y :: ys, h => by
    unfold insP
    have h' := List.pairwise_cons.mp h
    split
    · rename_i hl
      refine List.pairwise_cons.mpr ⟨fun z hz => ?_, h⟩
      rcases List.mem_cons.mp hz with rfl | hz
      · exact hl
      · have a := h'.1 z hz
        rw [leP_iff] at hl a ⊢
        omega
    · rename_i hl
      refine List.pairwise_cons.mpr ⟨fun z hz => ?_, insP_sorted x ys h'.2⟩
      rcases List.mem_cons.mp ((insP_perm x ys).mem_iff.mp hz) with rfl | hz
      · rw [leP_iff] at hl ⊢
        omega
      · exact h'.1 z hz
theorem sortP_sorted : ∀ l, (sortP l).Pairwise (fun p q => leP p q = true)
  | [] => .nil
  | x :: xs => insP_sorted x _ (sortP_sorted xs)
/-- the pairs of ints of a list of data -/
def pairD : D → Option (Int × Int)
  | .tuple [.int i, .int j] => some (i, j)
  | _ => none
def pairsD : List D → Option (List (Int × Int))
  | [] => some []
  | d :: ds => match pairD d, pairsD ds with
    | some p, some ps => some (p :: ps)
    | _, _ => none
def ofP (p : Int × Int) : D := .tuple [.int p.1, .int p.2]
theorem pairD_some {d : D} {p : Int × Int} (h : pairD d = some p) : d = ofP p := by
  unfold pairD at h
  split at h
  · cases h; rfl
  · cases h
theorem pairsD_some : ∀ {ds : List D} {ps : List (Int × Int)}, pairsD ds = some ps → ds = ps.map ofP
  | [], ps, h => by cases h; rfl
  | d :: ds, ps, h => by
    unfold pairsD at h
    split at h
    · rename_i p ps' e1 e2
      cases h
      rw [List.map_cons, ← pairD_some e1, ← pairsD_some e2]
    · cases h
def dSortI : List D → Option D
  | [.list ds] => (intsD ds).map fun ns => .list ((sortI ns).map .int)
  | _ => none
def dSortP : List D → Option D
  | [.list ds] => (pairsD ds).map fun ns => .list ((sortP ns).map ofP)
  | _ => none
theorem rp_ints {F : Hp} : ∀ ns : List Int, RpA F (ns.map V.int) (ns.map .int)
  | [] => .nil
  | n :: ns => .cons (.int n) (rp_ints ns)
theorem raw_sortI {K : PySem.W.Frag} : RawL C (rSortedI K) dSortI := fun F H δ vs ds z Q hs r o p => by
  unfold dSortI at o
  split at o
  · rename_i es
    obtain ⟨ns, e1, e2⟩ := Option.map_eq_some_iff.mp o
    subst e2
    obtain ⟨a, xs, rfl, h1, h2⟩ := one_list r
    have e3 := ints_rp h2 e1
    subst e3
    refine ⟨a, ns, rfl, SqL.of (hs.sub _ _ h1), fun ns' q pe so nq => ?_⟩
    have e4 : ns' = sortI ns := sorted_uniq (fun a b h h' => Int.le_antisymm h h') so (sortI_sorted ns) (pe.trans (sortI_perm ns).symm)
    subst e4
    exact p.list hs nq (rp_ints _)
  · cases o
theorem pairs_rp {F : Hp} : ∀ {vs : List V} {ds : List D} {ps : List (Int × Int)}, RpA F vs ds → pairsD ds = some ps → ∃ k : V → Int × Int, vs.map k = ps ∧ ∀ x ∈ vs, ∃ t, x = V.ref t ∧ F t = some (.tup [.int (k x).1, .int (k x).2]) := fun {vs ds ps} r h => by
  have key : ∀ {vs : List V} {ds : List D} {ps : List (Int × Int)}, RpA F vs ds → pairsD ds = some ps → vs.length = ps.length ∧ ∀ (i : Nat) (x : V) (p : Int × Int), vs[i]? = some x → ps[i]? = some p → ∃ t, x = V.ref t ∧ F t = some (.tup [.int p.1, .int p.2]) := by
    intro vs
    induction vs with
    | nil => intro ds ps r h; cases r; cases h; exact ⟨rfl, fun i x p e => by simp at e⟩
    | cons v vs ih =>
      intro ds ps r h
      cases r with
      | @cons _ _ d ds h1 r1 =>
        unfold pairsD at h
        split at h
        · rename_i p ps' e1 e2
          cases h
          obtain ⟨l, k⟩ := ih r1 e2
          refine ⟨by simp [l], fun i x p' e3 e4 => ?_⟩
          cases i with
          | zero =>
            simp at e3 e4
            subst e3; subst e4
            have e5 := pairD_some e1
            subst e5
            cases h1 with
            | @tup t xs _ h2 r2 =>
              obtain ⟨a, b, rfl, ra, rb⟩ := r2.two
              cases ra; cases rb
              exact ⟨t, rfl, h2⟩
          | succ i => exact k i x p' (by simpa using e3) (by simpa using e4)
        · cases h
  obtain ⟨l, k⟩ := key r h
  -- the pair of a value, read off the heap
  refine ⟨fun x => match x with
    | .ref t => (match F t with
      | some (.tup [.int i, .int j]) => (i, j)
      | _ => (0, 0))
    | _ => (0, 0), ?_, ?_⟩
  · refine List.ext_getElem? fun i => ?_
    rw [List.getElem?_map]
    cases hi : vs[i]? with
    | none => rw [List.getElem?_eq_none_iff.mpr (by rw [← l]; exact List.getElem?_eq_none_iff.mp hi)]; rfl
    | some x =>
      have hl : i < ps.length := by rw [← l]; exact (List.getElem?_eq_some_iff.mp hi).1
      obtain ⟨t, rfl, ht⟩ := k i x ps[i] hi (List.getElem?_eq_getElem hl)
      rw [List.getElem?_eq_getElem hl]
      simp only [Option.map_some, ht]
  · intro x hx
    obtain ⟨i, hi, e⟩ := List.mem_iff_getElem.mp hx
    have hl : i < ps.length := by rw [← l]; exact hi
    obtain ⟨t, rfl, ht⟩ := k i x ps[i] (by rw [List.getElem?_eq_getElem hi, e]) (List.getElem?_eq_getElem hl)
    exact ⟨t, rfl, by simp only [ht]⟩
theorem rp_pairs {F : Hp} {k : V → Int × Int} : ∀ {ys : List V}, (∀ x ∈ ys, ∃ t, x = V.ref t ∧ F t = some (.tup [.int (k x).1, .int (k x).2])) → RpA F ys ((ys.map k).map ofP)
  | [], _ => .nil
  | y :: ys, h => by
    obtain ⟨t, e, ht⟩ := h y List.mem_cons_self
    refine .cons ?_ (rp_pairs fun x hx => h x (List.mem_cons_of_mem _ hx))
    have : Rp F (.ref t) (ofP (k y)) := .tup ht (.cons (.int _) (.cons (.int _) .nil))
    rw [← e] at this
    exact this
theorem raw_sortP {K : PySem.W.Frag} : RawL C (rSortedPO K) dSortP := fun F H δ vs ds z Q hs r o p => by
  unfold dSortP at o
  split at o
  · rename_i es
    obtain ⟨ns, e1, e2⟩ := Option.map_eq_some_iff.mp o
    subst e2
    obtain ⟨a, xs, rfl, h1, h2⟩ := one_list r
    obtain ⟨k, e3, hk⟩ := pairs_rp h2 e1
    refine ⟨a, xs, k, rfl, SqL.of (hs.sub _ _ h1), fun x hx => ?_, fun ys q so st nq => ?_⟩
    · obtain ⟨t, e, ht⟩ := hk x hx
      exact ⟨t, e, hs.sub _ _ ht⟩
    · have pe : (ys.map k).Perm ns := by rw [← e3]; exact st.perm.map k
      have so' : (ys.map k).Pairwise (fun p q => leP p q = true) := List.pairwise_map.mpr (so.imp fun {x y} h => by
        unfold leP
        have h : SrtO.lexB (k y) (k x) = false := h
        rw [h]; rfl)
      have e4 : ys.map k = sortP ns := sorted_uniq (fun a b h h' => by
        rw [leP_iff] at h h'
        exact Prod.ext (by omega) (by omega)) so' (sortP_sorted ns) (pe.trans (sortP_perm ns).symm)
      have rr := rp_pairs (F := F) (k := k) (ys := ys) fun x hx => hk x (st.perm.mem_iff.mp hx)
      rw [e4] at rr
      exact p.list hs nq rr
  · cases o
/-- either -/
theorem CallR.or' {X : Cx} {f : Value} {r r' : List V → Hp → VK → Prop} (h : CallR X f r) (h' : CallR X f r') : CallR X f fun vs H Q => r vs H Q ∨ r' vs H Q := fun pins s σ H vs us Q I rv q => by
  rcases q with q | q
  · exact h pins s σ H vs us Q I rv q
  · exact h' pins s σ H vs us Q I rv q
def dAlt (f g : List D → Option D) : List D → Option D := fun ds => match f ds with
  | some z => some z
  | none => g ds
theorem rawL_or {r r' : List V → Hp → VK → Prop} {f g : List D → Option D} (h : RawL C r f) (h' : RawL C r' g) : RawL C (fun vs H Q => r vs H Q ∨ r' vs H Q) (dAlt f g) := fun F H δ vs ds z Q hs rv o p => by
  unfold dAlt at o
  split at o
  · rename_i z' e
    cases o
    exact .inl (h F H δ vs ds _ Q hs rv e p)
  · exact .inr (h' F H δ vs ds _ Q hs rv o p)
/-! ### list(range(..)), tuple(range(..)) -/
def EvR (C : Ct) (te : L2.St → Hp → (Int → Int → Hp → Prop) → Prop) (f : En → M (Int × Int)) : Prop := ∀ σ ρ F H δ (Q : Int → Int → Hp → Prop), Rel C σ ρ F H δ → ∀ r, f ρ δ = some r → (match r with
  | (.ok (i, j), δ') => ∀ F' H', Hs C.G C.aD F' H' δ' → Step C.G C.aD F H F' H' → Q i j H'
  | (.error nm, δ') => ErrP C nm δ') → te σ H Q
def rg1 (a : EX) : En → M (Int × Int) := fun ρ => M.bind (a ρ) fun x => match x with
  | .int j => M.pure (0, j)
  | _ => M.stuck
def rg2 (a b : EX) : En → M (Int × Int) := fun ρ => M.bind (a ρ) fun x => M.bind (b ρ) fun y => match x, y with
  | .int i, .int j => M.pure (i, j)
  | _, _ => M.stuck
theorem evr_1 (ha : EvE C ta fa) : EvR C (tRg1 ta) (rg1 fa) := fun σ ρ F H δ Q R r e p =>
  ha.then R e (fun nm δ' z => by subst z; exact p) fun d δ1 v F1 H1 e1 R1 s1 rp => by
    cases rp with
    | int j => cases (Option.some.inj e1).symm; exact ⟨j, rfl, p _ _ R1.hs s1⟩
    | _ => cases e1
theorem evr_2 (ha : EvE C ta fa) (hb : EvE C tb fb) : EvR C (tRg2 ta tb) (rg2 fa fb) := fun σ ρ F H δ Q R r e p =>
  ha.then R e (fun nm δ' z => by subst z; exact p) fun d δ1 v F1 H1 e1 R1 s1 rp => hb.then R1 e1 (fun nm δ' z => by subst z; exact p) fun d2 δ2 v2 F2 H2 e2 R2 s2 rp2 => by
    cases rp with
    | int i =>
      cases rp2 with
      | int j => cases (Option.some.inj e2).symm; exact ⟨i, j, rfl, rfl, p _ _ R2.hs (s1.trans s2)⟩
      | _ => cases e2
    | _ => cases e2
def rgOk (i j : Int) : Bool := inR i && inR j && decide ((j - i).toNat ≤ 2 ^ 24)
def eListRg (f : En → M (Int × Int)) : EX := fun ρ => M.bind (f ρ) fun p => if rgOk p.1 p.2 = true then M.pure (.list (rngL p.1 (p.2 - p.1).toNat)) else M.stuck
def eTupRg (f : En → M (Int × Int)) : EX := fun ρ => M.bind (f ρ) fun p => if rgOk p.1 p.2 = true then M.pure (.tuple (rngL p.1 (p.2 - p.1).toNat)) else M.stuck
theorem rgOk_iff {i j : Int} (h : rgOk i j = true) : RgOk i j := by
  unfold rgOk at h
  simp only [Bool.and_eq_true, decide_eq_true_eq] at h
  obtain ⟨⟨h1, h2⟩, h3⟩ := h
  exact ⟨(inR_iff h1).1, (inR_iff h1).2, (inR_iff h2).1, (inR_iff h2).2, h3⟩
theorem rp_rg {F : Hp} (i j : Int) : RpA F (rgV i j) (rngL i (j - i).toNat) := by
  unfold rgV rngL
  induction List.range (j - i).toNat with
  | nil => exact .nil
  | cons n l ih => exact .cons (.int _) ih
theorem ev_listRg {te : L2.St → Hp → (Int → Int → Hp → Prop) → Prop} {f : En → M (Int × Int)} (h : EvR C te f) : EvE C (tLstRg te) (eListRg f) := fun σ ρ F H δ Q r R e p => by
  rcases M.bind_some e with ⟨⟨i, j⟩, δ1, e1, e2⟩ | ⟨nm, δ1, e1, e2⟩
  · refine h σ ρ F H δ _ R _ e1 fun F1 H1 hs s1 => ?_
    dsimp only at e2
    split at e2
    · rename_i hk
      cases (Option.some.inj e2).symm
      exact ⟨rgOk_iff hk, fun q nq => ValP.list (p.mono s1) hs nq (rp_rg i j)⟩
    · cases e2
  · subst e2
    exact h σ ρ F H δ _ R _ e1 p
theorem ev_tupRg {te : L2.St → Hp → (Int → Int → Hp → Prop) → Prop} {f : En → M (Int × Int)} (h : EvR C te f) : EvE C (tTupRg te) (eTupRg f) := fun σ ρ F H δ Q r R e p => by
  rcases M.bind_some e with ⟨⟨i, j⟩, δ1, e1, e2⟩ | ⟨nm, δ1, e1, e2⟩
  · refine h σ ρ F H δ _ R _ e1 fun F1 H1 hs s1 => ?_
    dsimp only at e2
    split at e2
    · rename_i hk
      cases (Option.some.inj e2).symm
      exact ⟨rgOk_iff hk, fun q nq => ValP.tuple (p.mono s1) hs nq (rp_rg i j)⟩
    · cases e2
  · subst e2
    exact h σ ρ F H δ _ R _ e1 p
def JR (C : Ct) (X : Cx) (e : Expr) (f : En → M (Int × Int)) : Prop := ∃ t, PRg X e t ∧ EvR C t f
variable {a b e : Expr} {pos p : Pos}
theorem jr_1 (hm : X.mg "range" = none) (ha : JE C X a fa) (hg : Gl X "range" := by rfl) (na : starEach [a] X.env = (false, eval a X.env) :: starEach [] X.env := by rfl) : JR C X (.Call (.Name "range" p) [a] [] pos) (rg1 fa) := ⟨_, prg_1 hg hm ha na, evr_1 ev_of⟩
theorem jr_2 (hm : X.mg "range" = none) (ha : JE C X a fa) (hb : JE C X b fb) (hg : Gl X "range" := by rfl) (na : starEach [a, b] X.env = (false, eval a X.env) :: starEach [b] X.env := by rfl) (nb : starEach [b] X.env = (false, eval b X.env) :: starEach [] X.env := by rfl) (hp : (backTo pos (starEach [b] X.env)).any (·.1) = false := by rfl) :
    JR C X (.Call (.Name "range" p) [a, b] [] pos) (rg2 fa fb) := ⟨_, prg_2 hg hm ha hb na nb hp, evr_2 ev_of ev_of⟩
theorem je_listRg {f : En → M (Int × Int)} (hc : X.calm = true) (hm : X.mg "list" = none) (h : JR C X e f) (hg : Gl X "list" := by rfl) (na : starEach [e] X.env = (false, eval e X.env) :: starEach [] X.env := by rfl) : JE C X (.Call (.Name "list" p) [e] [] pos) (eListRg f) := by
  obtain ⟨t, h1, h2⟩ := h
  exact je (pe_listRg hc hg hm h1 na) (ev_listRg h2)
theorem je_tupRg {f : En → M (Int × Int)} (hc : X.calm = true) (hm : X.mg "tuple" = none) (h : JR C X e f) (hg : Gl X "tuple" := by rfl) (na : starEach [e] X.env = (false, eval e X.env) :: starEach [] X.env := by rfl) : JE C X (.Call (.Name "tuple" p) [e] [] pos) (eTupRg f) := by
  obtain ⟨t, h1, h2⟩ := h
  exact je (pe_tupRg hc hg hm h1 na) (ev_tupRg h2)
end
/-! ### the context of a def -/
section
variable {P : Program} {w : World} {K : PySem.W.Frag} {mg : Str → Option Value} {base : Heap} {N : List Str} {q : Str} {sc : Scope} {f : Addr} {cd : Value} {A : Around} {outer : List Env} {s : Shared} {H : Hp} {E : XK}
theorem tk_of : Takes (cxOf (L2.CX P w) P w K mg base N q sc f cd A outer s H E) fun cls d _ H => E cls d H := takes_of rfl rfl rfl rfl
theorem px_of : Passes (L2.CX P w) (cxOf (L2.CX P w) P w K mg base N q sc f cd A outer s H E) E := passes_call tk_of fun _ _ _ _ h => h
theorem po_of : PassesOwn (model (cxOf (L2.CX P w) P w K mg base N q sc f cd A outer s H E).prog (cxOf (L2.CX P w) P w K mg base N q sc f cd A outer s H E).w) (cxOf (L2.CX P w) P w K mg base N q sc f cd A outer s H E).A (cxOf (L2.CX P w) P w K mg base N q sc f cd A outer s H E).env (cxOf (L2.CX P w) P w K mg base N q sc f cd A outer s H E).xe := passes_of rfl
theorem pl_of {A' : Around} {outer' : List Env} {s' : Shared} {H' : Hp} {E' : XK} {sl : Scope} {f' c' : Addr} : Passes (L2.CX P w) (LamX.lamCx (cxOf (L2.CX P w) P w K mg base N q sc f cd A outer s H E) A' outer' s' H' E' sl f' c') E' := passes_call (W := fun cls d _ H => E' cls d H) (takes_of rfl rfl rfl rfl) fun _ _ _ _ h => h
end
end Lay

set_option Elab.async false
set_option linter.all false
set_option maxRecDepth 100000
set_option maxHeartbeats 2000000
/-! Several at once, one of them a list of the frame's own -/
namespace Lay
open PySem PySem.Spec PyProof.Rows L2

section
variable {C : Ct} {X : Cx} {ta tb tc : TE} {la : TA} {fa fb fc : EX} {gl : EL}
theorem setV_len (ρ : En) (i : Nat) (d : D) : (setV ρ i d).length = ρ.length := by unfold setV; exact List.length_set
theorem setO_len (ρ : En) (i : Nat) (d : List D) : (setO ρ i d).length = ρ.length := by unfold setO; exact List.length_set
/-- a list of the frame's own comes to be, not yet in a slot -/
theorem own_new {σ : L2.St} {ρ : En} {F H : Hp} {δ : Dice} {q : Addr} {vs : List V} (R : Rel C σ ρ F H δ) (nq : H q = none) : Rel C σ ρ F (upd H q (.lst vs)) δ ∧ F q = none ∧ C.H0 q = none ∧ q ≠ C.aD ∧ q ∉ C.G.tabs ∧ ∀ (j : Nat) (es : List D), ρ[j]? = some (some (SV.own es)) → σ[j]? ≠ some (some (V.ref q)) := by
  have n1 : q ≠ C.aD := fun z => R.hs.dne (by rw [← z]; exact nq)
  have n2 : q ∉ C.G.tabs := fun z => R.hs.tne z nq
  have n0 : C.H0 q = none := by
    cases z : C.H0 q with
    | none => rfl
    | some o => exact absurd nq (R.st.dom q (by rw [z]; exact fun z => nomatch z))
  have fq := R.hs.fne nq
  refine ⟨R.step (R.hs.own fq n1 n2 (nc_none nq)) ⟨Ext.refl _, fun _ _ _ _ _ h _ => h, fun a o z _ _ => by rw [upd_ne (ne_of_none z nq)]; exact z, fun a z => ?_⟩, fq, n0, n1, n2, fun j es hj e => ?_⟩
  · by_cases ea : a = q
    · rw [ea, upd_same]; exact fun z => nomatch z
    · rw [upd_ne ea]; exact z
  · obtain ⟨v, e2, a, ws, rfl, h1, _⟩ := R.sl j _ hj
    rw [e2] at e
    cases e
    rw [nq] at h1; cases h1
/-- i, j = [..], b: the first the frame's own -/
def sParO (i j : Nat) (l : EL) (b : EX) : ST := fun ρ => M.bind (l ρ) fun xs => if xs.length ≤ sizeLine ∧ i < ρ.length ∧ j < ρ.length ∧ noL ρ = true then M.bind (b ρ) fun y => M.pure (.nx (setV (setO ρ i xs) j y)) else M.stuck
theorem evs_parO {i j : Nat} (hl : EvA C la gl) (hb : EvE C tb fb) : EvS C (tPar i j (tCons (tLst la) (tCons tb tNil))) (sParO i j gl fb) := fun D' σ ρ F H δ r R e p =>
  hl.then R e p.err fun ds δ1 vs F1 H1 e1 R1 s1 rp => by
    split at e1
    · rename_i hz
      refine ⟨by rw [rp.length]; exact hz.1, fun q nq => ?_⟩
      obtain ⟨R2, fq, n0, n1, n2, nj⟩ := own_new (vs := vs) R1 nq
      refine hb.then R2 e1 p.err fun d δ2 v F' H' e2 R3 st rv => ⟨_, v, rfl, ?_⟩
      cases (Option.some.inj e2).symm
      have hq : H' q = some (.lst vs) := st.keep q _ upd_same n1 n2
      have fq' : F' q = none := st.new q _ upd_same n1 n2 fq (fun xs z => nomatch z)
      exact p.nx ((R3.setO hq fq' n0 (rp.mono st.ex) (fun k es hk ek => nj k es ek) hz.2.2.2).setV rv) (s1.ex.trans st.ex)
    · cases e1
/-- i, j, l = a, b, [..]: the last the frame's own -/
def sPar3O (i j l : Nat) (a b : EX) (g : EL) : ST := fun ρ => M.bind (a ρ) fun x => M.bind (b ρ) fun y => M.bind (g ρ) fun xs => if xs.length ≤ sizeLine ∧ i < ρ.length ∧ j < ρ.length ∧ l < ρ.length ∧ noL ρ = true then M.pure (.nx (setO (setV (setV ρ i x) j y) l xs)) else M.stuck
theorem evs_par3O {i j l : Nat} (ha : EvE C ta fa) (hb : EvE C tb fb) (hl : EvA C la gl) : EvS C (tPar3 i j l (tCons ta (tCons tb (tCons (tLst la) tNil)))) (sPar3O i j l fa fb gl) := fun D' σ ρ F H δ r R e p =>
  ha.then R e p.err fun d1 δ1 v1 F1 H1 e1 R1 s1 r1 => hb.then R1 e1 p.err fun d2 δ2 v2 F2 H2 e2 R2 s2 r2 => hl.then R2 e2 p.err fun ds δ3 vs F3 H3 e3 R3 s3 rp => by
    split at e3
    · rename_i hz
      cases (Option.some.inj e3).symm
      refine ⟨by rw [rp.length]; exact hz.1, fun q nq => ⟨v1, v2, _, rfl, ?_⟩⟩
      obtain ⟨R4, fq, n0, n1, n2, nj⟩ := own_new (vs := vs) R3 nq
      have R5 := (R4.setV (i := i) ((r1.mono s2.ex).mono s3.ex)).setV (i := j) (r2.mono s3.ex)
      refine p.nx (R5.setO upd_same fq n0 rp (fun k es hk ek eq => ?_) (noL_setV (noL_setV hz.2.2.2.2))) ((s1.trans s2).trans s3).ex
      have old : ∀ {ρ' : En} {m : Nat} {d : D} {k : Nat} {es : List D}, (setV ρ' m d)[k]? = some (some (SV.own es)) → k ≠ m ∧ ρ'[k]? = some (some (SV.own es)) := fun {ρ' m d k es} e => by
        unfold setV at e
        by_cases hm : m = k
        · subst hm
          by_cases hl : m < ρ'.length
          · rw [List.getElem?_set_self hl] at e; cases e
          · rw [List.getElem?_eq_none (by simpa using hl)] at e; cases e
        · rw [List.getElem?_set_ne hm] at e
          exact ⟨fun z => hm z.symm, e⟩
      obtain ⟨k1, e4⟩ := old ek
      obtain ⟨k2, e5⟩ := old e4
      rw [List.getElem?_set_ne k1.symm, List.getElem?_set_ne k2.symm] at eq
      exact nj k es e5 eq
    · cases e3
variable {a b c e : Expr} {pos : Pos} {es : List Expr}
theorem js_parO {i j : Nat} {x y : Str} {px py pt pt2 p2 : Pos} {kt k2 : Nat} (hc : X.calm = true) (nd : X.N.Nodup) (ha : JA C X es gl) (hb : JE C X b fb) (hi : X.N[i]? = some x := by rfl) (hj : X.N[j]? = some y := by rfl) (hij : i ≠ j := by decide) (hx : X.env.scope.names.lookup x = some .local := by rfl) (hy : X.env.scope.names.lookup y = some .local := by rfl)
    (s1 : starEach [.List es p2, b] X.env = (false, eval (.List es p2) X.env) :: starEach [b] X.env := by rfl) (s2 : starEach [b] X.env = (false, eval b X.env) :: starEach [] X.env := by rfl)
    (hsw : swappedStores [.Tuple [.Name x px, .Name y py] kt pt] (.Tuple [.List es p2, b] k2 pt2) X.env = pure (some [x, y]) := by rfl) (hs : swapsWithSole [.Tuple [.Name x px, .Name y py] kt pt] (.Tuple [.List es p2, b] k2 pt2) pos.line X.env = pure false := by rfl) :
    JS C X (.Assign [.Tuple [.Name x px, .Name y py] kt pt] (.Tuple [.List es p2, b] k2 pt2) pos) (sParO i j gl fb) := js (ps_par hc nd hi hj hij hx hy (pa_cons (pe_lst ha) (pa_cons hb pa_nil s2) s1) hsw hs) (evs_parO eva_of ev_of)
theorem js_par3O {i j l : Nat} {x y z : Str} {px py pz pt pt2 p2 : Pos} {kt k2 : Nat} (hc : X.calm = true) (nd : X.N.Nodup) (ha : JE C X a fa) (hb : JE C X b fb) (hcc : JA C X es gl) (hi : X.N[i]? = some x := by rfl) (hj : X.N[j]? = some y := by rfl) (hl : X.N[l]? = some z := by rfl) (hij : i ≠ j := by decide) (hil : i ≠ l := by decide) (hjl : j ≠ l := by decide)
    (hx : X.env.scope.names.lookup x = some .local := by rfl) (hy : X.env.scope.names.lookup y = some .local := by rfl) (hz : X.env.scope.names.lookup z = some .local := by rfl)
    (s0 : starEach [a, b, .List es p2] X.env = (false, eval a X.env) :: starEach [b, .List es p2] X.env := by rfl) (s1 : starEach [b, .List es p2] X.env = (false, eval b X.env) :: starEach [.List es p2] X.env := by rfl) (s2 : starEach [.List es p2] X.env = (false, eval (.List es p2) X.env) :: starEach [] X.env := by rfl)
    (hsw : swappedStores [.Tuple [.Name x px, .Name y py, .Name z pz] kt pt] (.Tuple [a, b, .List es p2] k2 pt2) X.env = pure (some [x, y, z]) := by rfl) (hs : swapsWithSole [.Tuple [.Name x px, .Name y py, .Name z pz] kt pt] (.Tuple [a, b, .List es p2] k2 pt2) pos.line X.env = pure false := by rfl) :
    JS C X (.Assign [.Tuple [.Name x px, .Name y py, .Name z pz] kt pt] (.Tuple [a, b, .List es p2] k2 pt2) pos) (sPar3O i j l fa fb gl) := js (ps_par3 hc nd hi hj hl hij hil hjl hx hy hz (pa_cons ha (pa_cons hb (pa_cons (pe_lst hcc) pa_nil s2) s1) s0) hsw hs) (evs_par3O ev_of ev_of eva_of)
/-- a module's number -/
theorem je_num {x : Str} {i : Int} {pos : Pos} (h : ∃ u, X.mg x = some u ∧ RelV (.int i) u) (hg : Gl X x := by rfl) (hd : (x == ("__debug__" : Str)) = false := by decide) : JE C X (.Name x pos) (eC (.int i)) := by
  obtain ⟨u, h1, h2⟩ := h
  exact je_glob h1 h2 hg hd
theorem Room.near {k : Nat} {A : Around} (h : Room k A) : A.units + 65 < cLine := by have := h.un; omega
theorem Room.near64 {k : Nat} {A : Around} (h : Room k A) : A.units + 64 < cLine := by have := h.un; omega
theorem jss_clr {sts : List Stmt} {f : ST} (vs : List Nat) (h : JSs C X sts f) : JSs C X sts (sClr vs f) := jss h (evs_clr vs evs_of)
end
end Lay

set_option Elab.async false
set_option linter.all false
set_option maxRecDepth 100000
set_option maxHeartbeats 2000000
/-! The law's dice -/
namespace Lay
open PySem PySem.Spec PyProof.Rows L2

/-- what a roll gives, and the dice behind it -/
def rollD (m : Int) : Dice → Option (Int × Dice)
  | [a, b, c] => if 0 < m ∧ m < 1073741824 ∧ 0 ≤ c ∧ c < 4294967296 then
      (if 0 < a then some (a.fmod m, [a.fdiv m, b, c])
      else
        let c' := c + 1
        let b' := (b * 52501 + c' * c' * 1009 + 77).fmod 2147480009
        some ((b'.fdiv 211).fmod m, [a, b', c'])) else none
  | _ => none
def m_roll : List D → M D := fun ds δ => match ds with
  | [.int m] => (match rollD m δ with
    | some (i, δ') => some (.ok (.int i), δ')
    | none => none)
  | _ => none
section
variable {G : Gt} {aD : Addr} {F H : Hp} {δ δ' : Dice}
theorem Hs.dice (h : Hs G aD F H δ) : Hs G aD F (upd H aD (.lst (δ'.map V.int))) δ' := by
  refine ⟨fun a o e => ?_, h.dF, upd_same, h.tF, fun P hP => ?_⟩
  · rw [upd_ne (fun z => by rw [z, h.dF] at e; cases e)]; exact h.sub a o e
  · obtain ⟨ps, e1, e2, e3⟩ := h.tH P hP
    exact ⟨ps, by rw [upd_ne (fun z => h.dt (by rw [← z]; exact hP))]; exact e1, e2, fun z => (e3 z).mono fun c hc => by rw [upd_ne (fun z => nc_list h.dH c _ (by rw [← z]; exact hc))]; exact hc⟩
theorem Step.dice {o : HO} : Step G aD F H F (upd H aD o) := ⟨Ext.refl F, fun _ _ _ _ _ h _ => h, fun a o e n _ => by rw [upd_ne n]; exact e, fun a h => by
  by_cases e : a = aD
  · rw [e, upd_same]; exact fun z => nomatch z
  · rw [upd_ne e]; exact h⟩
theorem upd_upd {a : Addr} {o o' : HO} : upd (upd H a o) a o' = upd H a o' := by
  funext b
  by_cases e : b = a
  · rw [e, upd_same, upd_same]
  · rw [upd_ne e, upd_ne e, upd_ne e]
/-- a cell of the dice read -/
theorem dIx0 {K : PySem.W.Frag} {σ : L2.St} {Q : VK} {a b c : Int} (h0 : σ[0]? = some (some (.ref aD))) (h : H aD = some (.lst [.int a, .int b, .int c])) (q : Q (.int a) H) : tOp (rIxL K) (tVar 0) (tC (.int 0)) σ H Q := ⟨_, h0, aD, _, 0, _, rfl, rfl, SqL.of h, rfl, q⟩
theorem dIx1 {K : PySem.W.Frag} {σ : L2.St} {Q : VK} {a b c : Int} (h0 : σ[0]? = some (some (.ref aD))) (h : H aD = some (.lst [.int a, .int b, .int c])) (q : Q (.int b) H) : tOp (rIxL K) (tVar 0) (tC (.int 1)) σ H Q := ⟨_, h0, aD, _, 1, _, rfl, rfl, SqL.of h, rfl, q⟩
theorem dIx2 {K : PySem.W.Frag} {σ : L2.St} {Q : VK} {a b c : Int} (h0 : σ[0]? = some (some (.ref aD))) (h : H aD = some (.lst [.int a, .int b, .int c])) (q : Q (.int c) H) : tOp (rIxL K) (tVar 0) (tC (.int 2)) σ H Q := ⟨_, h0, aD, _, 2, _, rfl, rfl, SqL.of h, rfl, q⟩
end
theorem iteT' {b : Bool} {A B : Prop} (e : b = true) (h : A) : if b = true then A else B := by rw [if_pos e]; exact h
theorem iteF' {b : Bool} {A B : Prop} (e : b = false) (h : B) : if b = true then A else B := by rw [if_neg (by rw [e]; exact Bool.false_ne_true)]; exact h
/-- _law_roll's reading -/
def tRoll (K : PySem.W.Frag) : TS :=
  tSeq (tIfS (tTest (tOp (rI0 fun i j => .bl (decide (j < i))) (tOp (rIxL K) (tVar 0) (tC (.int 0))) (tC (.int 0))))
      (tSeq (tAsg (tOp (rI (fun _ j => j ≠ 0) fun i j => .int (i.fmod j)) (tCB (fun xs H Q => (∃ i, xs = [V.int i] ∧ Q (V.int i) H) ∨ ∃ k, xs = [V.bl k] ∧ Q (V.int (if k then 1 else 0)) H) (tCons (tOp (rIxL K) (tVar 0) (tC (.int 0))) tNil)) (tVar 1)) (gName 2))
        (tSeq (tAsg (tOp (rI CDivN fun i j => .int (i.fdiv j)) (tOp (rIxL K) (tVar 0) (tC (.int 0))) (tVar 1)) (gSub (tVar 0) (tC (.int 0)) rSetL)) (tRet (tVar 2)))) tNext)
    (tSeq (tAsg (tOp (rI0 fun i j => .int (i + j)) (tOp (rIxL K) (tVar 0) (tC (.int 2))) (tC (.int 1))) (gSub (tVar 0) (tC (.int 2)) rSetL))
      (tSeq (tAsg (tOp (rI (fun _ j => j ≠ 0) fun i j => .int (i.fmod j)) (tCB (fun xs H Q => (∃ i, xs = [V.int i] ∧ Q (V.int i) H) ∨ ∃ k, xs = [V.bl k] ∧ Q (V.int (if k then 1 else 0)) H) (tCons (tOp (rI0 fun i j => .int (i + j)) (tOp (rI0 fun i j => .int (i + j))
            (tOp (rI CMul fun i j => .int (i * j)) (tOp (rIxL K) (tVar 0) (tC (.int 1))) (tC (.int 52501))) (tOp (rI CMul fun i j => .int (i * j)) (tOp (rI CMul fun i j => .int (i * j)) (tOp (rIxL K) (tVar 0) (tC (.int 2))) (tOp (rIxL K) (tVar 0) (tC (.int 2)))) (tC (.int 1009)))) (tC (.int 77))) tNil)) (tC (.int 2147480009))) (gSub (tVar 0) (tC (.int 1)) rSetL))
        (tRet (tOp (rI (fun _ j => j ≠ 0) fun i j => .int (i.fmod j)) (tCB (fun xs H Q => (∃ i, xs = [V.int i] ∧ Q (V.int i) H) ∨ ∃ k, xs = [V.bl k] ∧ Q (V.int (if k then 1 else 0)) H) (tCons (tOp (rI CDivN fun i j => .int (i.fdiv j)) (tOp (rIxL K) (tVar 0) (tC (.int 1))) (tC (.int 211))) tNil)) (tVar 1)))))
theorem roll_pure {G : Gt} {K : PySem.W.Frag} {vs : List V} {H : Hp} {Q : VK} {E : XK} {N : List Str} (hN : N.length = 3) (h : spD G m_roll vs H Q E) : tRoll K { nx := fun _ H' => Q .non H', rt := Q } (L2.start N vs) H := by
  obtain ⟨aD, F, δ, ws, ds, r, rfl, hs, rp, e, p⟩ := h
  unfold m_roll at e
  split at e
  · rename_i m
    obtain ⟨w, rfl, rw'⟩ := rp.one
    cases rw'
    cases hr : rollD m δ with
    | none => rw [hr] at e; cases e
    | some y =>
      obtain ⟨i, δ'⟩ := y
      rw [hr] at e
      cases (Option.some.inj e).symm
      have p : ValP ⟨G, aD, F, H, E⟩ F H (.int i) δ' Q := p
      unfold rollD at hr
      split at hr
      · rename_i a b c
        have st : L2.start N [.ref aD, .int m] = [some (.ref aD), some (.int m), none] := by
          unfold L2.start
          rw [hN]; rfl
        rw [st]
        have hd : H aD = some (.lst [.int a, .int b, .int c]) := hs.dH
        split at hr
        · rename_i hb
          obtain ⟨b1, b2, b3, b4⟩ := hb
          have mz : m ≠ 0 := by omega
          have ms : CDivN a m := ⟨mz, by omega⟩
          refine dIx0 rfl hd ⟨a, 0, rfl, rfl, decide (0 < a), rfl, ?_⟩
          split at hr
          · rename_i ha
            cases (Option.some.inj hr).symm
            refine iteT' (decide_eq_true ha) ?_
            refine dIx0 rfl hd (.inl ⟨a, rfl, _, rfl, a, m, rfl, rfl, mz, ?_⟩)
            refine dIx0 rfl hd ⟨_, rfl, a, m, rfl, rfl, ms, _, rfl, aD, _, 0, 0, rfl, rfl, hd, rfl, _, rfl, ?_⟩
            exact p _ F _ (hs.dice (δ' := [a.fdiv m, b, c])) Step.dice (.int _)
          · rename_i ha
            cases (Option.some.inj hr).symm
            refine iteF' (decide_eq_false ha) ?_
            refine dIx2 rfl hd ⟨c, 1, rfl, rfl, _, rfl, aD, _, 2, 2, rfl, rfl, hd, rfl, ?_⟩
            have hd1 : upd H aD (.lst [.int a, .int b, .int (c + 1)]) aD = some (.lst [.int a, .int b, .int (c + 1)]) := upd_same
            refine dIx1 rfl hd1 ⟨b, 52501, rfl, rfl, .inr (by decide), ?_⟩
            refine dIx2 rfl hd1 (dIx2 rfl hd1 ⟨c + 1, c + 1, rfl, rfl, .inr (by constructor <;> omega), (c + 1) * (c + 1), 1009, rfl, rfl, .inr (by decide), _, _, rfl, rfl, _, 77, rfl, rfl, .inl ⟨_, rfl, _, 2147480009, rfl, rfl, (show (2147480009 : Int) ≠ 0 by decide), _, rfl, aD, _, 1, 1, rfl, rfl, hd1, rfl, ?_⟩⟩)
            rw [upd_upd]
            refine dIx1 rfl upd_same ⟨_, 211, rfl, rfl, ⟨by decide, by decide⟩, .inl ⟨_, rfl, _, rfl, _, m, rfl, rfl, mz, ?_⟩⟩
            exact p _ F _ (hs.dice (δ' := [a, (b * 52501 + (c + 1) * (c + 1) * 1009 + 77).fmod 2147480009, c + 1])) Step.dice (.int _)
        · cases hr
      · cases hr
  · cases e
theorem roll_ok {P : Program} {w : World} {K : PySem.W.Frag} {mg : Str → Option Value} {base : Heap} {G : Gt} {st : Stmt} {cd : Addr} (D : DefAt K mg "_law_roll" st cd) (S : FnScope ["dice", "many", "found"] ["dice", "many"] (defScope st))
    (h : ∀ (f : Addr) (A : Around) (outer : List Env) (s : Shared) (H : Hp) (E : XK), PSs (cxOf (L2.CX P w) P w K mg base ["dice", "many", "found"] "_law_roll" (defScope st) f (.ref cd) A outer s H E) (defBody st) (tRoll K)) : CalF P w K mg base 1 "_law_roll" st ["dice", "many"] (spD G m_roll) := by
  obtain ⟨f, oc, od, kV, doc, pm, an, ct, osl, hm, hkp, lk, hcd⟩ := D.ex
  refine ⟨f, kV, doc, pm, an, _, ct, fn_of (k := 0) lk hcd S (fun vs H Q E h => ?_) fun A outer s H vs Q E hr hp => ⟨_, h f A outer s H E, roll_pure rfl hp⟩, hm, hkp⟩
  obtain ⟨aD, F, δ, ws, ds, r, rfl, hs, rp, e, p⟩ := h
  unfold m_roll at e
  split at e
  · obtain ⟨w, rfl, _⟩ := rp.one
    rfl
  · cases e
end Lay

set_option Elab.async false
set_option linter.all false
set_option maxRecDepth 100000
set_option maxHeartbeats 2000000
/-! The dice of a cell; the law itself -/
namespace Lay
open PySem PySem.Spec PyProof.Rows L2

abbrev rInt1 : List V → Hp → VK → Prop := fun xs H Q => (∃ i, xs = [V.int i] ∧ Q (V.int i) H) ∨ ∃ k, xs = [V.bl k] ∧ Q (V.int (if k then 1 else 0)) H
abbrev rLenS (K : PySem.W.Frag) : List V → Hp → VK → Prop := fun xs H Q => ∃ p ys, xs = [V.ref p] ∧ (SqL K H p ys ∨ SqT K H p ys) ∧ Q (V.int ys.length) H
def tD1 (K : PySem.W.Frag) : TS := tAsg (tIf (tTest (tOp (rI0 fun i j => .bl (decide (i < j))) (tVar 1) (tCB (rLenS K) (tCons (tVar 0) tNil)))) (tOp (rIxL K) (tVar 0) (tVar 1)) (tOp (rI0 fun i j => .int (i + j)) (tOp (rI CMul fun i j => .int (i * j)) (tC (.int 733)) (tVar 1)) (tC (.int 29)))) (gName 2)
def tD2 : TS := tAsg (tOp (rI0 fun i j => .int (i + j)) (tC (.int 950009)) (tOp (rI CMul fun i j => .int (i * j)) (tC (.int 7907)) (tVar 1))) (gName 3)
def tD3b : TS := tAsg (tOp (rI (fun _ j => j ≠ 0) fun i j => .int (i.fmod j)) (tCB rInt1 (tCons (tOp (rI0 fun i j => .int (i + j)) (tOp (rI CMul fun i j => .int (i * j)) (tVar 3) (tC (.int 48271))) (tOp (rI (fun _ j => j ≠ 0) fun i j => .int (i.fmod j)) (tCB rInt1 (tCons (tVar 4) tNil)) (tC (.int 2147480009)))) tNil)) (tC (.int 2147480009))) (gName 3)
def tD3 (K : PySem.W.Frag) : TS := tFor (iList K (tOp rCat (tSl (rSlL K) (tVar 0) tNoPart (tPart (tC (.int 6)))) (tLst (tCons (tVar 2) tNil)))) (gName 4) tD3b
def tD4 : TS := tRet (tLst (tCons (tIf (tOr (tTest (tOp (rI0 fun i j => .bl (decide (i < j))) (tVar 2) (tC (.int 0)))) (tTest (tOp (rI0 fun i j => .bl (decide (j ≤ i))) (tVar 2) (tOp (rI CPow fun i j => .int (i ^ j.toNat)) (tC (.int 10)) (tC (.int 16))))))
      (tCB (fun xs H Q => ∃ i, xs = [V.int i] ∧ Q (V.int (if i < 0 then -i else i)) H) (tCons (tVar 2) tNil)) (tC (.int 0))) (tCons (tVar 3) (tCons (tC (.int 0)) tNil))))
def tDice (K : PySem.W.Frag) : TS := tSeq (tD1 K) (tSeq tD2 (tSeq (tD3 K) tD4))
/-- a script's dice: three numbers, the last 0 -/
def spDice (K : PySem.W.Frag) : Sp := fun vs H Q E => ∃ (a : Addr) (ns : List Int) (spot : Nat), vs = [.ref a, .int spot] ∧ SqL K H a (ns.map V.int) ∧ spot < 100 ∧
  ∀ H' p (x y : Int), Same H H' → H p = none → H' p = some (.lst [.int x, .int y, .int 0]) → Q (.ref p) H'
theorem atI_ints {ns : List Int} {i : Nat} (h : i < ns.length) : ∃ z, atI (ns.map V.int) (i : Int) = some (.int z) := by
  unfold atI
  have e : ixN (ns.map V.int).length (i : Int) = some i := by
    unfold ixN
    rw [List.length_map, if_pos (by omega), if_pos (by omega)]
    simp
  rw [e]
  exact ⟨ns[i], by simp [h]⟩
/-- the turns behind the own number -/
theorem dice_rest {K : PySem.W.Frag} {H : Hp} {D : Ends} {a : Addr} {ns : List Int} {spot : Nat} (own : Int) (hs : SqL K H a (ns.map V.int))
    (q : ∀ H' p (x y : Int), Same H H' → H p = none → H' p = some (.lst [.int x, .int y, .int 0]) → D.rt (.ref p) H') :
    tSeq tD2 (tSeq (tD3 K) tD4) D [some (.ref a), some (.int spot), some (.int own), none, none] H := by
  refine ⟨_, rfl, 7907, spot, rfl, rfl, .inl ⟨by decide, by decide⟩, 950009, _, rfl, rfl, ?_⟩
  show tSeq (tD3 K) tD4 D [some (.ref a), some (.int spot), some (.int own), some (.int (950009 + 7907 * spot)), none] H
  generalize 950009 + 7907 * (spot : Int) = m0
  refine ⟨_, rfl, 6, rfl, a, _, rfl, hs, fun p hp => ⟨_, rfl, by rw [sizeLine_eq]; exact (by decide : 1 ≤ 16777216), fun p2 hp2 => ?_⟩⟩
  have np : p2 ≠ p := fun z => by rw [z, upd_same] at hp2; cases hp2
  have cl : ∃ ms : List Int, cutV (ns.map V.int) none (some 6) = ms.map V.int ∧ ms.length ≤ 6 := by
    refine ⟨(ns.drop (HT.sIx ns.length 0 none)).take (HT.sIx ns.length ns.length (some 6) - HT.sIx ns.length 0 none), ?_, ?_⟩
    · unfold cutV
      rw [List.length_map, List.map_take, List.map_drop]
    · have e : HT.sIx ns.length ns.length (some 6) = min 6 ns.length := HT.sIx_nat _ _ 6
      rw [List.length_take, e]
      omega
  obtain ⟨ms, ec, lm⟩ := cl
  rw [ec]
  refine ⟨p, p2, _, _, rfl, rfl, by rw [upd_ne np.symm]; exact upd_same, upd_same, by rw [sizeLine_eq, List.length_map]; exact Nat.le_trans (Nat.add_le_add_right lm 1) (by decide), fun p3 hp3 => ⟨p3, rfl, ⟨_, SqL.of upd_same⟩, ?_⟩⟩
  have S0 : Same H (upd (upd (upd H p (.lst (ms.map V.int))) p2 (.lst [.int own])) p3 (.lst (ms.map V.int ++ [.int own]))) := fun b o e => by
    have n3 : b ≠ p3 := fun z => by
      rw [z] at e
      by_cases h2 : p3 = p2
      · rw [h2, upd_same] at hp3; cases hp3
      · rw [upd_ne h2] at hp3
        by_cases h1 : p3 = p
        · rw [h1, upd_same] at hp3; cases hp3
        · rw [upd_ne h1, e] at hp3; cases hp3
    have n2 : b ≠ p2 := fun z => by
      rw [z] at e
      rw [upd_ne np, e] at hp2; cases hp2
    rw [upd_ne n3, upd_ne n2, upd_ne (ne_of_none e hp)]; exact e
  have el : ms.map V.int ++ [V.int own] = (ms ++ [own]).map V.int := by rw [List.map_append]; rfl
  rw [el]
  generalize hH3 : upd (upd (upd H p (.lst (ms.map V.int))) p2 (.lst [.int own])) p3 (.lst ((ms ++ [own]).map V.int)) = H3
  rw [el, hH3] at S0
  have h3 : H3 p3 = some (.lst ((ms ++ [own]).map V.int)) := by rw [← hH3]; exact upd_same
  refine for_list (K := K) (a := p3) (xs := (ms ++ [own]).map V.int) (fun i σ H' => H' = H3 ∧ ∃ (m : Int) (v : Option V), σ = [some (.ref a), some (.int spot), some (.int own), some (.int m), v]) ⟨rfl, m0, none, rfl⟩ (fun i σ H' _ ⟨e, _⟩ => by rw [e]; exact SqL.of h3) ?_ ?_
  · rintro i x σ H' hi ⟨rfl, m, v, rfl⟩
    obtain ⟨c, rfl⟩ : ∃ c, x = V.int c := by
      rw [List.getElem?_map] at hi
      obtain ⟨c, _, e⟩ := Option.map_eq_some_iff.mp hi
      exact ⟨c, e.symm⟩
    refine ⟨_, rfl, m, 48271, rfl, rfl, .inr ⟨by decide, by decide⟩, ?_⟩
    refine ⟨_, rfl, .inl ⟨c, rfl, c, 2147480009, rfl, rfl, (show (2147480009 : Int) ≠ 0 by decide), _, _, rfl, rfl, .inl ⟨_, rfl, _, 2147480009, rfl, rfl, (show (2147480009 : Int) ≠ 0 by decide), rfl, _, _, rfl⟩⟩⟩
  · rintro σ H' ⟨rfl, m, v, rfl⟩
    refine ⟨_, rfl, own, 0, rfl, rfl, decide (own < 0), rfl, ?_⟩
    have fin : ∀ x : Int, (fun x H1 => tCons (tVar 3) (tCons (tC (.int 0)) tNil) [some (V.ref a), some (V.int spot), some (V.int own), some (V.int m), v] H1 fun xs H2 => (fun vs H' => vs.length ≤ sizeLine ∧ ∀ q, H' q = none → D.rt (V.ref q) (upd H' q (.lst vs))) (x :: xs) H2) (V.int x) H' := fun x => by
      refine ⟨_, rfl, by rw [sizeLine_eq]; exact (by decide : 3 ≤ 16777216), fun p4 hp4 => q _ p4 x m (S0.trans fun b o e => ?_) (S0.free hp4) upd_same⟩
      rw [upd_ne (ne_of_none e hp4)]; exact e
    have tail : (if (decide (own < 0)) = true then True else True) := by split <;> trivial
    by_cases h0 : own < 0
    · rw [decide_eq_true h0]
      refine iteT ?_
      exact iteT ⟨_, rfl, own, rfl, fin _⟩
    · rw [decide_eq_false h0]
      refine iteF ⟨_, rfl, 10, 16, rfl, rfl, ⟨by decide, by decide, by decide⟩, own, _, rfl, rfl, decide ((10 : Int) ^ (16 : Int).toNat ≤ own), rfl, ?_⟩
      by_cases h1 : (10 : Int) ^ (16 : Int).toNat ≤ own
      · rw [decide_eq_true h1]
        exact iteT ⟨_, rfl, own, rfl, fin _⟩
      · rw [decide_eq_false h1]
        exact iteF (fin 0)
theorem dice_pure {K : PySem.W.Frag} {vs : List V} {H : Hp} {Q : VK} {E : XK} {N : List Str} (hN : N.length = 5) (h : spDice K vs H Q E) : tDice K { nx := fun _ H' => Q .non H', rt := Q } (L2.start N vs) H := by
  obtain ⟨a, ns, spot, rfl, hs, hsp, q⟩ := h
  have st : L2.start N [.ref a, .int spot] = [some (.ref a), some (.int spot), none, none, none] := by
    unfold L2.start
    rw [hN]; rfl
  rw [st]
  refine ⟨_, rfl, _, rfl, a, _, rfl, .inl hs, spot, _, rfl, rfl, decide ((spot : Int) < ((ns.map V.int).length : Int)), rfl, ?_⟩
  by_cases hl : spot < ns.length
  · have hl' : (spot : Int) < ((ns.map V.int).length : Int) := by rw [List.length_map]; omega
    obtain ⟨z, hz⟩ := atI_ints hl
    exact iteT' (decide_eq_true hl') ⟨_, rfl, _, rfl, a, _, spot, _, rfl, rfl, hs, hz, dice_rest z hs q⟩
  · have hl' : ¬ (spot : Int) < ((ns.map V.int).length : Int) := by rw [List.length_map]; omega
    exact iteF' (decide_eq_false hl') ⟨_, rfl, 733, spot, rfl, rfl, .inl ⟨by decide, by decide⟩, _, 29, rfl, rfl, dice_rest _ hs q⟩
end Lay

set_option Elab.async false
set_option linter.all false
set_option maxRecDepth 100000
set_option maxHeartbeats 2000000
/-! The law over the cells -/
namespace Lay
open PySem PySem.Spec PyProof.Rows L2

def TabsOk (G : Gt) (H : Hp) : Prop := ∀ P ∈ G.tabs, ∃ ps : Array Value, H P = some (.tbl ps) ∧ TriplesOk ps.toList ∧ (P = G.lt → CodesIn H ps G.lq)
theorem TabsOk.same {G : Gt} {H H' : Hp} (h : TabsOk G H) (s : Same H H') : TabsOk G H' := fun P hP => by
  obtain ⟨ps, e1, e2, e3⟩ := h P hP
  exact ⟨ps, s _ _ e1, e2, fun z => (e3 z).mono fun c hc => s _ _ hc⟩
abbrev rMax2 : List V → Hp → VK → Prop := fun xs H Q => ∃ i j, xs = [V.int i, V.int j] ∧ Q (V.int (if j > i then j else i)) H
abbrev rMin2 : List V → Hp → VK → Prop := fun xs H Q => ∃ i j, xs = [V.int i, V.int j] ∧ Q (V.int (if j < i then j else i)) H
def tLaw (K : PySem.W.Frag) (G : Gt) (m : List D → M D) (most : Int) : TS :=
  tSeq (tFor (iRng1 (tCons (tCB rMax2 (tCons (tC (.int 1)) (tCons (tCB rMin2 (tCons (tC (.int most)) (tCons (tCB (rLenS K) (tCons (tVar 0) tNil)) tNil))) tNil))) tNil)) (gName 1)
      (tIfS (tNot (tB (tCall (spD G m) [] E0 (tCons (tCall (spDice K) [] E0 (tCons (tVar 0) (tCons (tVar 1) tNil))) tNil)))) (tRet (tC (.bl false))) tNext))
    (tRet (tC (.bl true)))
def spLaw (K : PySem.W.Frag) (G : Gt) : Sp := fun vs H Q E => ∃ (a : Addr) (ns : List Int), vs = [.ref a] ∧ SqL K H a (ns.map V.int) ∧ TabsOk G H ∧ ∀ H', Q (.bl true) H'
/-- the dice of a cell are fair -/
def Fair (m : List D → M D) : Prop := ∀ x y : Int, ∃ δ, m [] [x, y, 0] = some (.ok (.bool true), δ)
theorem law_pure {K : PySem.W.Frag} {G : Gt} {m : List D → M D} {most : Int} {vs : List V} {H : Hp} {Q : VK} {E : XK} {N : List Str} (hN : N.length = 2) (hm : 0 ≤ most ∧ most ≤ 50) (fair : Fair m) (h : spLaw K G vs H Q E) : tLaw K G m most { nx := fun _ H' => Q .non H', rt := Q } (L2.start N vs) H := by
  obtain ⟨a, ns, rfl, hs, ht, q⟩ := h
  have st : L2.start N [.ref a] = [some (.ref a), none] := by
    unfold L2.start
    rw [hN]; rfl
  rw [st]
  refine ⟨_, rfl, a, _, rfl, .inl hs, most, _, rfl, 1, _, rfl, ?_⟩
  generalize hn : (if (if (((ns.map V.int).length : Int)) < most then (((ns.map V.int).length : Int)) else most) > 1 then (if (((ns.map V.int).length : Int)) < most then (((ns.map V.int).length : Int)) else most) else 1) = n
  have nb : 1 ≤ n ∧ n ≤ 50 := by
    rw [← hn]
    split <;> split at * <;> omega
  refine ⟨n, rfl, by omega, by omega, ?_⟩
  refine for_range (lo := 0) (n := n.toNat) (fun i σ H' => ∃ v, σ = [some (.ref a), v] ∧ SqL K H' a (ns.map V.int) ∧ TabsOk G H') ⟨none, rfl, hs, ht⟩ ?_ ?_
  · rintro i σ H' hi ⟨v, rfl, hs', ht'⟩
    have ei : (0 : Int) + (i : Int) = ((i : Nat) : Int) := by omega
    rw [ei]
    refine ⟨_, rfl, _, rfl, a, ns, i, rfl, hs', by omega, fun H1 p x y sm np hp => ?_⟩
    obtain ⟨δ, hf⟩ := fair x y
    have ht1 := ht'.same sm
    have pt : p ∉ G.tabs := fun z => by
      obtain ⟨ps, e, _⟩ := ht1 p z
      rw [hp] at e; cases e
    refine ⟨p, fun _ => none, [x, y, 0], [], [], _, rfl, ⟨(fun _ _ z => (nomatch z)), rfl, hp, fun _ _ => rfl, ht1⟩, .nil, hf, fun v' F' H2 hs2 st2 rv => ?_⟩
    cases rv
    refine ⟨true, rfl, ?_⟩
    refine iteF' rfl ⟨_, rfl, ?_, hs2.tH⟩
    -- the script stands
    have s1 : SqL K H1 a (ns.map V.int) := by
      rcases hs' with (e | ⟨o, e⟩) | z
      · exact .inl (.inl (sm _ _ e))
      · exact .inl (.inr ⟨o, sm _ _ e⟩)
      · exact .inr z
    have na : ∀ o, H' a = some o → a ≠ p := fun o e z => by rw [z, np] at e; cases e
    rcases hs' with (e | ⟨o, e⟩) | z
    · refine .inl (.inl (st2.keep a _ (sm _ _ e) (na _ e) fun z => ?_))
      obtain ⟨ps, e', _⟩ := ht' a z
      rw [e] at e'; cases e'
    · refine .inl (.inr ⟨o, st2.keep a _ (sm _ _ e) (na _ e) fun z => ?_⟩)
      obtain ⟨ps, e', _⟩ := ht' a z
      rw [e] at e'; cases e'
    · exact .inr z
  · rintro σ H' ⟨v, rfl, _, _⟩
    exact q H'
end Lay

set_option Elab.async false
set_option linter.all false
set_option maxRecDepth 100000
set_option maxHeartbeats 2000000
/-! The cells' dice and the law as defs -/
namespace Lay
open PySem PySem.Spec PyProof.Rows L2

section
variable {P : Program} {w : World} {K : PySem.W.Frag} {mg : Str → Option Value} {base : Heap} {st : Stmt} {cd : Addr}
theorem dice_ok (D : DefAt K mg "_law_dice" st cd) (S : FnScope ["script", "spot", "own", "mixed", "cell"] ["script", "spot"] (defScope st))
    (h : ∀ (f : Addr) (A : Around) (outer : List Env) (s : Shared) (H : Hp) (E : XK), PSs (cxOf (L2.CX P w) P w K mg base ["script", "spot", "own", "mixed", "cell"] "_law_dice" (defScope st) f (.ref cd) A outer s H E) (defBody st) (tDice K)) : CalF P w K mg base 1 "_law_dice" st ["script", "spot"] (spDice K) := by
  obtain ⟨f, oc, od, kV, doc, pm, an, ct, osl, hm, hkp, lk, hcd⟩ := D.ex
  refine ⟨f, kV, doc, pm, an, _, ct, fn_of (k := 0) lk hcd S (fun vs H Q E h => ?_) fun A outer s H vs Q E hr hp => ⟨_, h f A outer s H E, dice_pure rfl hp⟩, hm, hkp⟩
  obtain ⟨_, _, _, rfl, _⟩ := h
  rfl
theorem law_ok {G : Gt} {m : List D → M D} {most : Int} {k : Nat} {f : Addr} {oc kV doc pm ct : Value} {od an : Option Addr} {osl : Array (Option Value)} (lk : K.lookup f = some ⟨oc, od, .func (PySem.W.fnOf "law" "law" (defArgs st) (defBody st) (defScope st) .none kV doc pm an (.ref cd) ct), osl⟩) (hcd : PySem.W.codeIn K (.ref cd) "law" = true)
    (S : FnScope ["script", "spot"] ["script"] (defScope st)) (hm : 0 ≤ most ∧ most ≤ 50) (fair : Fair m)
    (h : ∀ (A : Around) (outer : List Env) (s : Shared) (H : Hp) (E : XK), Room k (A.deeper (envOfC "law" (defScope st) s.heap.objs.size f (.ref cd))) → PSs (cxOf (L2.CX P w) P w K mg base ["script", "spot"] "law" (defScope st) f (.ref cd) A outer s H E) (defBody st) (tLaw K G m most)) :
    FnOk P w K mg base (L2.CX P w) (k + 1) f (PySem.W.fnOf "law" "law" (defArgs st) (defBody st) (defScope st) .none kV doc pm an (.ref cd) ct) ["script"] (spLaw K G) := by
  refine fn_of lk hcd S (fun vs H Q E h => ?_) fun A outer s H vs Q E hr hp => ⟨_, h A outer s H E hr, law_pure rfl hm fair hp⟩
  obtain ⟨_, _, rfl, _⟩ := h
  rfl
/-- _law_right(_law_dice(script, spot)), as a test -/
theorem pt_right {X : Cx} {G : Gt} {m : List D → M D} {k k1 k2 : Nat} {p p1 p2 p3 p4 p5 : Pos} (T1 : CalX X.prog X.w X.K X.mg X.base k1 "_law_right" (spD G m)) (T2 : CalX X.prog X.w X.K X.mg X.base k2 "_law_dice" (spDice X.K)) (hr : Room k X.A) (h1 : k1 ≤ k) (h2 : k2 ≤ k) (px : Passes (L2.CX X.prog X.w) X E0)
    (g1 : Gl X "_law_right") (g2 : Gl X "_law_dice") (v0 : PE X (.Name "script" p1) (tVar 0)) (v1 : PE X (.Name "spot" p2) (tVar 1))
    (s0 : starEach [.Name "script" p1, .Name "spot" p2] X.env = (false, eval (.Name "script" p1) X.env) :: starEach [.Name "spot" p2] X.env) (s1 : starEach [.Name "spot" p2] X.env = (false, eval (.Name "spot" p2) X.env) :: starEach [] X.env) (s2 : (backTo p4 (starEach [.Name "spot" p2] X.env)).any (·.1) = false)
    (s3 : starEach [.Call (.Name "_law_dice" p3) [.Name "script" p1, .Name "spot" p2] [] p4] X.env = (false, eval (.Call (.Name "_law_dice" p3) [.Name "script" p1, .Name "spot" p2] [] p4) X.env) :: starEach [] X.env) (s4 : (backTo p (starEach [] X.env)).any (·.1) = false)
    (ht : ∀ whole, isTrue (.Call (.Name "_law_right" p5) [.Call (.Name "_law_dice" p3) [.Name "script" p1, .Name "spot" p2] [] p4] [] p) X.env whole = (do let v ← whole; standAt p; holding [v] (truthy v))) :
    PT X (.Call (.Name "_law_right" p5) [.Call (.Name "_law_dice" p3) [.Name "script" p1, .Name "spot" p2] [] p4] [] p) (tB (tCall (spD G m) [] E0 (tCons (tCall (spDice X.K) [] E0 (tCons (tVar 0) (tCons (tVar 1) tNil))) tNil))) := by
  obtain ⟨f1, fd1, ps1, F1, m1, k1', b1⟩ := T1.ex
  obtain ⟨f2, fd2, ps2, F2, m2, k2', b2⟩ := T2.ex
  exact pt_val (pe_call F1 (hr.mono h1) g1 m1 k1' b1 .nil px (pa_cons (pe_call F2 (hr.mono h2) g2 m2 k2' b2 .nil px (pa_cons v0 (pa_cons v1 pa_nil s1) s0) (by decide) s0 s2) pa_nil s3) (by decide) s3 s4) ht
end
end Lay

set_option Elab.async false
set_option linter.all false
set_option maxRecDepth 100000
set_option maxHeartbeats 2000000
/-! The end: what the top has written, told by names -/
namespace Lay
open PySem PySem.Spec PyProof.Rows L2

/-- the defs' tables are empty -/
def TabsAll (K : PySem.W.Frag) (q : Program) (h : Heap) : Prop := ∀ (d : DefRec) (x : Str) (c P : Addr), (recsOf q).find? (fun e => e.name == x) = some d → PySem.W.tabIn K x = some (c, P) → PySem.W.CodeHd h c P ∧ h.get? P = some { cls := .none, data := .fields #[] }
theorem walk_ofA {l : PySem.W.OpenLaw} {n k : Nat} {q : Program} {loose : List Str} {XP : (Str → Option Value) → Heap → Prop} {YP : World → Heap → Prop} {d : DefRec} {K : Params → PySem.W.Frag} {CX : World → CXT} {x : Str}
    (hn : l.most = some n) (hn2 : n ≤ sizeLine) (hdf : d.params.defaults = []) (hr : Room k callerA) (hY : ∀ (w : World) (h : Heap), YP w h → (K w.params).In h)
    (F : ∀ (w : World) (mg : Str → Option Value) (fa : Addr) (h : Heap), YP w h → (K w.params).In h → h.Ns mainGlobals mg → mg d.name = some (.ref fa) → TabsAll (K w.params) q h → LamX.LawAtS l w (K w.params) (CX w) k n x mg fa h)
    (hCX : ∀ (w : World) (H : Hp) (s : Shared) (e : Value) (s' : Shared), CX w [] H s (fun _ _ _ => False) e s' → False) :
    PySem.W.WalkO q loose XP YP l.row.toRowW d [] (fun f vs => PySem.call f vs) := by
  refine Att.attach_callB hn hdf fun w s₀ s₁ mg mb fa o pm cd doc a vs ns G Y ho hd hcd hmg hobj hints hlen hbits hg => ?_
  have KX := hY w _ Y
  obtain ⟨fd, cs, sp, hT, nT, C, hb, hsp, hF⟩ := F w mg fa _ Y KX G.T.g hmg fun d x c P hr ht => PySem.W.tab_of G.T KX hr ht
  exact LamX.law_callTs KX G.T.g G.T.b G.T.builtins G.T.nolimit hg hT nT C G.T.bmain hobj hints (Nat.le_trans hlen hn2) hr hF hb (fun H hH hS => hsp H a ns hlen hbits hH hS) fun H e s' => hCX w H s₁ e s'
theorem cx_no {P : Program} {w : World} {H : Hp} {s : Shared} {e : Value} {s' : Shared} (h : L2.CX P w [] H s (fun _ _ _ => False) e s') : False := by
  obtain ⟨_, _, _, _, _, _, _, _, _, _, _, _, z⟩ := h
  exact z
/-- a def by the written part alone, its table -/
structure DefK (K : PySem.W.Frag) (x : Str) (st : Stmt) (cd : Addr) : Prop where
  ex : ∃ (f : Addr) (oc : Value) (od : Option Addr) (kV doc pm : Value) (an : Option Addr) (ct : Value) (osl : Array (Option Value)), PySem.W.nsIn K mainGlobals x = some (some (.ref f)) ∧ PySem.W.keepIn K (.ref f) = true ∧
    K.lookup f = some ⟨oc, od, .func (PySem.W.fnOf x x (defArgs st) (defBody st) (defScope st) .none kV doc pm an (.ref cd) ct), osl⟩ ∧ PySem.W.codeIn K (.ref cd) x = true
theorem dk {K : PySem.W.Frag} {x : Str} {st : Stmt} {cd f : Addr} {oc kV doc pm ct : Value} {od an : Option Addr} {osl : Array (Option Value)} (a : PySem.W.nsIn K mainGlobals x = some (some (.ref f)))
    (l : K.lookup f = some ⟨oc, od, .func (PySem.W.fnOf x x (defArgs st) (defBody st) (defScope st) .none kV doc pm an (.ref cd) ct), osl⟩) (c : PySem.W.codeIn K (.ref cd) x = true) (q : PySem.W.keepIn K (.ref f) = true) : DefK K x st cd := ⟨f, oc, od, kV, doc, pm, an, ct, osl, a, q, l, c⟩
theorem DefK.at {K : PySem.W.Frag} {x : Str} {st : Stmt} {cd : Addr} {h : Heap} {mg : Str → Option Value} (D : DefK K x st cd) (X : K.In h) (G : h.Ns mainGlobals mg) : DefAt K mg x st cd := by
  obtain ⟨f, oc, od, kV, doc, pm, an, ct, osl, a, q, l, c⟩ := D.ex
  exact ⟨f, oc, od, kV, doc, pm, an, ct, osl, PySem.W.mg_of X G a, q, l, c⟩
/-- the error's class, by the written part alone -/
structure BadK (P : Program) (K : PySem.W.Frag) (x : Str) (C : Addr) : Prop where
  ex : ∃ (fI cc cda : Addr) (params : Arguments) (dV kV doc pm ct oc : Value) (an od : Option Addr) (osl : Array (Option Value)) (qual : Str) (ar : Arg) (j : Nat) (tx : Str) (p0 p1 p2 p3 p4 p5 p6 p7 p8 p9 p10 p11 : Pos) (pl : Addr → Sem Bool),
    (∀ mg : Str → Option Value, mg "super" = none → BiOk K P mg C fI cc cda) ∧ tx.length ≤ 100 ∧ (params.posonlyargs ++ params.args).head? = some ar ∧ ar.arg = "self" ∧ PySem.W.codeIn K (.ref cda) qual = true ∧
    (∀ L : Addr, eval (biCall tx j p0 p1 p2 p3 p4 p5 p6) (PySem.W.ksEnv qual biSc L fI (.ref cda) cc) = (do
      let ov ← attributeBase (.Call (.Name "super" p0) [] [] p1) "__init__" (PySem.W.ksEnv qual biSc L fI (.ref cda) cc) (eval (.Call (.Name "super" p0) [] [] p1) (PySem.W.ksEnv qual biSc L fI (.ref cda) cc))
      standAt p2.atName
      let (g, first) ← holding [ov] (getMethod ov "__init__" (pl L))
      callWith p6 g first (backTo p6 (starEach [.BinOp (.Constant (.str tx) j p3) .Add (.Name "name" p4) p5] (PySem.W.ksEnv qual biSc L fI (.ref cda) cc))) [])) ∧
    (∀ L : Addr, swapsWith (biCall tx j p0 p1 p2 p3 p4 p5 p6) none p7.line (PySem.W.ksEnv qual biSc L fI (.ref cda) cc) = pure false) ∧
    (∀ L : Addr, swapsWith (.Name "name" p10) (some (.Attribute (.Name "self" p8) "name" p9)) p11.line (PySem.W.ksEnv qual biSc L fI (.ref cda) cc) = pure false) ∧
    K.lookup fI = some ⟨oc, od, .func (PySem.W.fnX "__init__" qual params (biBody tx j p0 p1 p2 p3 p4 p5 p6 p7 p8 p9 p10 p11) biSc [("__class__", cc)] dV kV doc pm an (.ref cda) ct), osl⟩ ∧
    PySem.W.nsIn K mainGlobals x = some (some (.ref C)) ∧ PySem.W.findIn K (.ref C) "__init__" = some (some (.ref fI)) ∧ PySem.W.typeIn K (.ref fI) = some (.type "function") ∧ OexC K C ∧
    (∀ us : List Value, us.length = (["self", "name"] : List Str).length → bindArgs (PySem.W.fnX "__init__" qual params (biBody tx j p0 p1 p2 p3 p4 p5 p6 p7 p8 p9 p10 p11) biSc [("__class__", cc)] dV kV doc pm an (.ref cda) ct) ⟨us, []⟩ = pure ((["self", "name"] : List Str).zip us))
theorem BadK.bad {P : Program} {w : World} {K : PySem.W.Frag} {mg : Str → Option Value} {base h : Heap} {x : Str} {C : Addr} (B : BadK P K x C) (X : K.In h) (G : h.Ns mainGlobals mg) (hs : mg "super" = none) : BadX P w K mg base x C := by
  obtain ⟨fI, cc, cda, params, dV, kV, doc, pm, ct, oc, an, od, osl, qual, ar, j, tx, p0, p1, p2, p3, p4, p5, p6, p7, p8, p9, p10, p11, pl, b, h1, h2, h3, h4, h5, h6, h7, h8, h9, h10, h11, h12, h13⟩ := B.ex
  exact ⟨h12, PySem.W.mg_of X G h9, fI, _, h10, h11, bi_fn (k := 0) (b mg hs) h1 h2 h3 h4 pl h5 h6 h7 h8, .all h13⟩
theorem badk {P : Program} {K : PySem.W.Frag} {x : Str} {C fI cc cda : Addr} {params : Arguments} {dV kV doc pm ct oc : Value} {an od : Option Addr} {osl : Array (Option Value)} {qual : Str} {ar : Arg} {j : Nat} {tx : Str} {p0 p1 p2 p3 p4 p5 p6 p7 p8 p9 p10 p11 : Pos} {pl : Addr → Sem Bool}
    {nm q : Str} {N : Addr} {bs : List Value} {sn : List Str} {sub : List Value} {ab : Bool} {col : Option Bool} {dd : Option Addr} {m0 m1 m2 m3 m5 : Option Value} {cl : Value} {cld : Option Addr} {csl : Array (Option Value)} {ccl : Value} {cdd : Option Addr} {vs : Array Value} {ccs : Array (Option Value)} {file : Str} {tf : Tok}
    (aC : PySem.W.nsIn K mainGlobals x = some (some (.ref C)))
    (xL : K.lookup C = some (excClassObj nm q C N bs [.type "ValueError", .type "Exception", .type "BaseException", .type "object"] true sn sub ab col dd m0 m1 m2 m3 m5 "ValueError.__new__"))
    (a1 : PySem.W.findIn K (.ref C) "__init__" = some (some (.ref fI)))
    (lI : K.lookup fI = some ⟨oc, od, .func (PySem.W.fnX "__init__" qual params (biBody tx j p0 p1 p2 p3 p4 p5 p6 p7 p8 p9 p10 p11) biSc [("__class__", cc)] dV kV doc pm an (.ref cda) ct), osl⟩)
    (lc : K.lookup cc = some ⟨cl, cld, .cell (some (.ref C)), csl⟩) (ld : K.lookup cda = some ⟨ccl, cdd, .fields vs, ccs⟩) (lf : vs[2]? = some (.str file tf)) (hf : ((P.main.file : Str) == file) = true)
    (t1 : PySem.W.typeIn K (.ref fI) = some (.type "function")) (c1 : PySem.W.codeIn K (.ref cda) qual = true)
    (sa : PySem.W.findIn K (.ref C) "__setattr__" = some (some (.builtin "object.__setattr__"))) (nb : PySem.W.findIn K (.ref C) "name" = some none) (kC : PySem.W.keepIn K (.ref C) = true) (eC : PySem.W.subIn K (.ref C) (.type "BaseException") = some true) (tC : PySem.W.typeIn K (.ref C) = some (.type "type"))
    (su : PySem.W.ks_superIn K C C "__init__" = some (some (.builtin "ValueError.__init__"))) (ve : PySem.W.subIn K (.ref C) (.type "ValueError") = some true) (ow : PySem.W.mroIn K C (.ref C) = some true)
    (ini : PySem.W.excInitIn K C [.type "ValueError", .type "Exception", .type "BaseException", .type "object"] "ValueError.__new__" = true) (opq : PySem.W.nsIn K cStatics "thirdparty.any" = some none) (top : (P.main.scope.names.lookup ("super" : Str)).isSome = false)
    (htx : tx.length ≤ 100) (hp : (params.posonlyargs ++ params.args).head? = some ar) (har : ar.arg = "self")
    (he : ∀ L : Addr, eval (biCall tx j p0 p1 p2 p3 p4 p5 p6) (PySem.W.ksEnv qual biSc L fI (.ref cda) cc) = (do
      let ov ← attributeBase (.Call (.Name "super" p0) [] [] p1) "__init__" (PySem.W.ksEnv qual biSc L fI (.ref cda) cc) (eval (.Call (.Name "super" p0) [] [] p1) (PySem.W.ksEnv qual biSc L fI (.ref cda) cc))
      standAt p2.atName
      let (g, first) ← holding [ov] (getMethod ov "__init__" (pl L))
      callWith p6 g first (backTo p6 (starEach [.BinOp (.Constant (.str tx) j p3) .Add (.Name "name" p4) p5] (PySem.W.ksEnv qual biSc L fI (.ref cda) cc))) []))
    (hs1 : ∀ L : Addr, swapsWith (biCall tx j p0 p1 p2 p3 p4 p5 p6) none p7.line (PySem.W.ksEnv qual biSc L fI (.ref cda) cc) = pure false)
    (hs2 : ∀ L : Addr, swapsWith (.Name "name" p10) (some (.Attribute (.Name "self" p8) "name" p9)) p11.line (PySem.W.ksEnv qual biSc L fI (.ref cda) cc) = pure false)
    (hb : ∀ us : List Value, us.length = (["self", "name"] : List Str).length → bindArgs (PySem.W.fnX "__init__" qual params (biBody tx j p0 p1 p2 p3 p4 p5 p6 p7 p8 p9 p10 p11) biSc [("__class__", cc)] dV kV doc pm an (.ref cda) ct) ⟨us, []⟩ = pure ((["self", "name"] : List Str).zip us)) : BadK P K x C := by
  have T : OexC K C := ⟨⟨nm, q, N, bs, _, sn, sub, ab, col, dd, m0, m1, m2, m3, m5, xL, by decide +kernel⟩, sa, eC, tC, kC⟩
  refine ⟨fI, cc, cda, params, dV, kV, doc, pm, ct, oc, an, od, osl, qual, ar, j, tx, p0, p1, p2, p3, p4, p5, p6, p7, p8, p9, p10, p11, pl, fun mg hs => ?_, htx, hp, har, c1, he, hs1, hs2, lI, aC, a1, t1, T, hb⟩
  exact ⟨T, ⟨_, by unfold PySem.W.clsIn; rw [xL] <;> rfl⟩, su, ve, ow, ini, opq, nb, ⟨cl, cld, csl, lc⟩, ⟨ccl, cdd, vs, ccs, file, tf, ld, lf, hf⟩, top, hs⟩
theorem tabs_of {G : Gt} {H : Hp} {cs : List (Addr × Addr)} (h : ∀ p ∈ cs, H p.2 = some (.tbl #[])) (e : G.tabs = cs.map (·.2)) : TabsOk G H := fun P hP => by
  rw [e] at hP
  obtain ⟨p, hp, rfl⟩ := List.mem_map.mp hP
  refine ⟨#[], h p hp, True.intro, fun _ pos cv hc => ?_⟩
  have z : codeAmong pos [] = some cv := hc
  simp [codeAmong] at z
theorem find_rec {q : Program} {x : Str} (h : ((recsOf q).find? fun e => e.name == x).isSome = true) : ∃ d, (recsOf q).find? (fun e => e.name == x) = some d := Option.isSome_iff_exists.mp h
theorem num_k {K : PySem.W.Frag} {x : Str} {i : Int} {t : Tok} (a : PySem.W.nsIn K mainGlobals x = some (some (.int i t))) : ∃ u, PySem.W.nsIn K mainGlobals x = some (some u) ∧ RelV (.int i) u := ⟨_, a, t, rfl⟩
theorem tab_in {K : PySem.W.Frag} {x : Str} {f c P : Addr} {oc e : Value} {od dd : Option Addr} {fd : FuncData} {osl sl : Array (Option Value)} {vs : Array Value} (a : PySem.W.nsIn K mainGlobals x = some (some (.ref f))) (l : K.lookup f = some ⟨oc, od, .func fd, osl⟩) (hc : fd.code = .ref c) (l2 : K.lookup c = some ⟨e, dd, .fields vs, sl⟩) (hv : vs[11]? = some (.ref P)) : PySem.W.tabIn K x = some (c, P) := by
  unfold PySem.W.tabIn
  rw [a]
  dsimp only
  rw [l]
  dsimp only
  rw [hc]
  dsimp only
  rw [l2]
  dsimp only
  rw [hv]
end Lay

set_option Elab.async false
set_option linter.all false
set_option maxRecDepth 100000
set_option maxHeartbeats 2000000
/-! Reckoning with mirrors -/
namespace Lay
open PySem PySem.Spec PyProof.Rows L2

/-! ### what comes out well -/
def Good {α : Type} (m : M α) (δ : Dice) (P : α → Dice → Prop) : Prop := ∃ a δ', m δ = some (.ok a, δ') ∧ P a δ'
section
variable {α β : Type} {δ : Dice}
theorem Good.pure {a : α} {P : α → Dice → Prop} (h : P a δ) : Good (M.pure a) δ P := ⟨a, δ, rfl, h⟩
theorem Good.bind {m : M α} {k : α → M β} {P : β → Dice → Prop} (h : Good m δ fun a δ' => Good (k a) δ' P) : Good (M.bind m k) δ P := by
  obtain ⟨a, δ1, e1, b, δ2, e2, p⟩ := h
  exact ⟨b, δ2, by unfold M.bind; rw [e1]; exact e2, p⟩
theorem Good.of {m : M α} {a : α} {P : α → Dice → Prop} (e : m = M.pure a) (h : P a δ) : Good m δ P := by rw [e]; exact .pure h
theorem Good.imp {m : M α} {P Q : α → Dice → Prop} (h : Good m δ P) (k : ∀ a δ', P a δ' → Q a δ') : Good m δ Q := by
  obtain ⟨a, δ1, e, p⟩ := h
  exact ⟨a, δ1, e, k _ _ p⟩
theorem bind_of {m : M α} {a : α} {k : α → M β} (h : m = M.pure a) : M.bind m k = k a := by rw [h]; rfl
theorem bind_err {m : M α} {e : Str} {k : α → M β} (h : m = M.err e) : M.bind m k = M.err e := by rw [h]; rfl
/-! ### statements, one after another -/
variable {a b : ST} {ρ ρ' : En} {d : D} {P : Fl → Dice → Prop}
theorem seq_nx (h : a ρ = M.pure (.nx ρ')) : sSeq a b ρ = b ρ' := by unfold sSeq; rw [h]; rfl
theorem seq_rt (h : a ρ = M.pure (.rt d)) : sSeq a b ρ = M.pure (.rt d) := by unfold sSeq; rw [h]; rfl
theorem seq_err {e : Str} (h : a ρ = M.err e) : sSeq a b ρ = M.err e := by unfold sSeq; rw [h]; rfl
theorem Good.seq (h : Good (a ρ) δ fun f δ1 => match f with
    | .nx ρ' => Good (b ρ') δ1 P
    | f => P f δ1) : Good (sSeq a b ρ) δ P := by
  refine Good.bind (h.imp fun f δ1 p => ?_)
  cases f with
  | nx ρ' => exact p
  | rt d => exact .pure p
  | bk ρ' => exact .pure p
  | ct ρ' => exact .pure p
theorem Good.nx (h : a ρ = M.pure (.nx ρ')) (k : Good (b ρ') δ P) : Good (sSeq a b ρ) δ P := by rw [seq_nx h]; exact k
theorem if_t {c : EB} (h : c ρ = M.pure true) : sIf c a b ρ = a ρ := by unfold sIf; rw [h]; rfl
theorem if_f {c : EB} (h : c ρ = M.pure false) : sIf c a b ρ = b ρ := by unfold sIf; rw [h]; rfl
theorem set_ok {i : Nat} {e : EX} (h : e ρ = M.pure d) (hl : i < ρ.length) : sSet i e ρ = M.pure (.nx (setV ρ i d)) := by unfold sSet; rw [h]; show (if i < ρ.length then _ else _) = _; rw [if_pos hl]
theorem exp_ok {e : EX} (h : e ρ = M.pure d) : sExp e ρ = M.pure (.nx ρ) := by unfold sExp; rw [h]; rfl
theorem exp_err {e : EX} {nm : Str} (h : e ρ = M.err nm) : sExp e ρ = M.err nm := by unfold sExp; rw [h]; rfl
theorem ret_ok {e : EX} (h : e ρ = M.pure d) : sRet e ρ = M.pure (.rt d) := by unfold sRet; rw [h]; rfl
theorem app_ok {i : Nat} {e : EX} {ds : List D} (hg : getO ρ i = some ds) (h : e ρ = M.pure d) (hl : ds.length < sizeLine) : sApp i e ρ = M.pure (.nx (setO ρ i (ds ++ [d]))) := by
  unfold sApp; rw [hg]; show M.bind (e ρ) _ = _; rw [h]; show (if ds.length < sizeLine then _ else _) = _; rw [if_pos hl]
theorem own_ok {i : Nat} (hl : i < ρ.length) (hL : noL ρ = true := by rfl) : sOwn i lNil ρ = M.pure (.nx (setO ρ i [])) := by
  unfold sOwn; show (if ([] : List D).length ≤ sizeLine ∧ i < ρ.length ∧ noL ρ = true then _ else _) = _; rw [if_pos ⟨by rw [sizeLine_eq]; decide, hl, hL⟩]
/-! ### turns -/
variable {tg : Tg} {vs : List Nat}
theorem for_nil : forL tg vs b [] ρ = M.pure (.nx (clr ρ vs)) := rfl
theorem for_nx {ds : List D} {ρ1 ρ2 : En} (hb : bindT tg (clr ρ vs) d = some ρ1) (h : b ρ1 = M.pure (.nx ρ2)) : forL tg vs b (d :: ds) ρ = forL tg vs b ds ρ2 := by
  show M.bind (M.lift (bindT tg (clr ρ vs) d)) _ = _
  rw [hb]; show M.bind (b ρ1) _ = _; rw [h]; rfl
theorem for_rt {ds : List D} {ρ1 : En} {x : D} (hb : bindT tg (clr ρ vs) d = some ρ1) (h : b ρ1 = M.pure (.rt x)) : forL tg vs b (d :: ds) ρ = M.pure (.rt x) := by
  show M.bind (M.lift (bindT tg (clr ρ vs) d)) _ = _
  rw [hb]; show M.bind (b ρ1) _ = _; rw [h]; rfl
theorem for_ok {it : EL} {ds : List D} (h : it ρ = M.pure ds) : sFor tg it vs b ρ = forL tg vs b ds ρ := by unfold sFor; rw [h]; rfl
theorem wh_t {c : EB} {n : Nat} (h : c ρ = M.pure true) (hb : b ρ = M.pure (.nx ρ')) : whL c b (n + 1) ρ = whL c b n ρ' := by
  show M.bind (c ρ) _ = _
  rw [h]; show M.bind (b ρ) _ = _; rw [hb]; rfl
theorem wh_f {c : EB} {n : Nat} (h : c ρ = M.pure false) : whL c b (n + 1) ρ = M.pure (.nx ρ) := by
  show M.bind (c ρ) _ = _
  rw [h]; rfl
/-- a comprehension's turns by what each gives -/
theorem comp_nil {conds : EB} {elt : EX} : compL tg conds elt vs [] ρ = M.pure [] := rfl
theorem comp_go {conds : EB} {elt : EX} {vs : List Nat} {γ : Type} (enc : γ → D) (p : γ → Bool) (f : γ → D) (pos : γ → En) :
    ∀ (xs : List γ), (∀ x ∈ xs, bindT tg (clr ρ vs) (enc x) = some (pos x) ∧ conds (pos x) = M.pure (p x) ∧ (p x = true → elt (pos x) = M.pure (f x))) → compL tg conds elt vs (xs.map enc) ρ = M.pure ((xs.filter p).map f)
  | [], _ => rfl
  | x :: xs, h => by
    obtain ⟨h1, h2, h3⟩ := h x List.mem_cons_self
    have ih := comp_go enc p f pos xs fun y hy => h y (List.mem_cons_of_mem _ hy)
    rw [List.map_cons]
    show M.bind (M.lift (bindT tg (clr ρ vs) (enc x))) _ = _
    rw [h1]
    show M.bind (M.noErr (conds (pos x))) _ = _
    rw [h2]
    show (if p x = true then _ else _) = _
    cases hp : p x with
    | true =>
      rw [if_pos rfl, h3 hp, ih, List.filter_cons_of_pos hp]
      rfl
    | false =>
      rw [if_neg Bool.false_ne_true, ih, List.filter_cons_of_neg (by rw [hp]; exact Bool.false_ne_true)]
theorem comp_ok {it : EL} {conds : EB} {elt : EX} {ds ys : List D} (h : it ρ = M.pure ds) (h2 : compL tg conds elt vs ds ρ = M.pure ys) (hl : ys.length ≤ sizeLine) : eComp tg it conds elt vs ρ = M.pure (.list ys) := by
  unfold eComp
  rw [h]
  show M.bind (compL tg conds elt vs ds ρ) _ = _
  rw [h2]
  show (if ys.length ≤ sizeLine then _ else _) = _
  rw [if_pos hl]
theorem all_go {elt : EX} {γ : Type} (enc : γ → D) (p : γ → Bool) (pos : γ → En) : ∀ (xs : List γ), (∀ x ∈ xs, bindT tg ρ (enc x) = some (pos x) ∧ elt (pos x) = M.pure (.bool (p x))) → allL tg elt (xs.map enc) ρ = M.pure (xs.all p)
  | [], _ => rfl
  | x :: xs, h => by
    obtain ⟨h1, h2⟩ := h x List.mem_cons_self
    have ih := all_go enc p pos xs fun y hy => h y (List.mem_cons_of_mem _ hy)
    rw [List.map_cons]
    show M.bind (M.lift (bindT tg ρ (enc x))) _ = _
    rw [h1]
    show M.bind (M.bind (M.noErr (elt (pos x))) toB) _ = _
    rw [h2]
    show (if p x = true then _ else _) = _
    rw [List.all_cons]
    cases hp : p x with
    | true => rw [if_pos rfl, ih]; rfl
    | false => rw [if_neg Bool.false_ne_true]; rfl
theorem all_ok {it : EL} {elt : EX} {ds : List D} {cap : List Nat} {n : Nat} {c : Bool} (h : it ρ = M.pure ds) (h2 : allL tg elt ds (captD ρ cap n) = M.pure c) : eAll tg it elt cap n ρ = M.pure (.bool c) := by
  unfold eAll
  rw [h]
  show M.bind (allL tg elt ds (captD ρ cap n)) _ = _
  rw [h2]
  rfl
/-! ### expressions -/
theorem var_ok {i : Nat} (h : getD ρ i = some d) : eVar i ρ = M.pure d := by unfold eVar; rw [h]; rfl
theorem bin_ok {op : D → D → Option D} {e f : EX} {x y z : D} (h1 : e ρ = M.pure x) (h2 : f ρ = M.pure y) (h : op x y = some z) : eBin op e f ρ = M.pure z := by
  unfold eBin; rw [h1]; show M.bind (f ρ) _ = _; rw [h2]; show M.lift (op x y) = _; rw [h]; rfl
theorem un_ok {op : D → Option D} {e : EX} {x z : D} (h1 : e ρ = M.pure x) (h : op x = some z) : eUn op e ρ = M.pure z := by
  unfold eUn; rw [h1]; show M.lift (op x) = _; rw [h]; rfl
theorem call_ok {m : List D → M D} {l : EL} {ds : List D} (h : l ρ = M.pure ds) : eCall m l ρ = m ds := by unfold eCall; rw [h]; rfl
theorem callB_ok {op : List D → Option D} {l : EL} {ds : List D} {z : D} (h : l ρ = M.pure ds) (h2 : op ds = some z) : eCallB op l ρ = M.pure z := by unfold eCallB; rw [h]; show M.lift (op ds) = _; rw [h2]; rfl
theorem nil_ok : lNil ρ = M.pure [] := rfl
theorem cons_ok {e : EX} {l : EL} {x : D} {xs : List D} (h : e ρ = M.pure x) (h2 : l ρ = M.pure xs) : lCons e l ρ = M.pure (x :: xs) := by
  unfold lCons; rw [h]; show M.bind (l ρ) _ = _; rw [h2]; rfl
theorem one_ok {e : EX} {x : D} (h : e ρ = M.pure x) : lCons e lNil ρ = M.pure [x] := cons_ok h nil_ok
theorem of_ok {e : EX} {c : Bool} (h : e ρ = M.pure (.bool c)) : bOf e ρ = M.pure c := by unfold bOf; rw [h]; rfl
theorem not_ok {c : EB} {x : Bool} (h : c ρ = M.pure x) : bNot c ρ = M.pure (!x) := by unfold bNot; rw [h]; rfl
theorem and_t {c c' : EB} {x : Bool} (h : c ρ = M.pure true) (h2 : c' ρ = M.pure x) : bAnd c c' ρ = M.pure x := by unfold bAnd; rw [h]; exact h2
theorem and_f {c c' : EB} (h : c ρ = M.pure false) : bAnd c c' ρ = M.pure false := by unfold bAnd; rw [h]; rfl
theorem and_ok {c c' : EB} {x y : Bool} (h : c ρ = M.pure x) (h2 : x = true → c' ρ = M.pure y) : bAnd c c' ρ = M.pure (x && y) := by
  cases x with
  | true => exact and_t h (h2 rfl)
  | false => exact and_f h
theorem or_t {c c' : EB} (h : c ρ = M.pure true) : bOr c c' ρ = M.pure true := by unfold bOr; rw [h]; rfl
theorem or_f {c c' : EB} {x : Bool} (h : c ρ = M.pure false) (h2 : c' ρ = M.pure x) : bOr c c' ρ = M.pure x := by unfold bOr; rw [h]; exact h2
theorem or_ok {c c' : EB} {x y : Bool} (h : c ρ = M.pure x) (h2 : x = false → c' ρ = M.pure y) : bOr c c' ρ = M.pure (x || y) := by
  cases x with
  | true => exact or_t h
  | false => exact or_f h (h2 rfl)
theorem ife_t {c : EB} {e f : EX} (h : c ρ = M.pure true) : eIf c e f ρ = e ρ := by unfold eIf; rw [h]; rfl
theorem ife_f {c : EB} {e f : EX} (h : c ρ = M.pure false) : eIf c e f ρ = f ρ := by unfold eIf; rw [h]; rfl
theorem eand_ok {e f : EX} {x y : Bool} (h : e ρ = M.pure (.bool x)) (h2 : x = true → f ρ = M.pure (.bool y)) : eAnd e f ρ = M.pure (.bool (x && y)) := by
  unfold eAnd; rw [h]
  cases x with
  | true => exact h2 rfl
  | false => rfl
theorem chain_ok {op1 op2 : D → D → Option D} {e f g : EX} {x y z : D} {p q : Bool} (h1 : e ρ = M.pure x) (h2 : f ρ = M.pure y) (h : op1 x y = some (.bool p)) (h3 : g ρ = M.pure z) (h' : op2 y z = some (.bool q)) : eChain op1 op2 e f g ρ = M.pure (.bool (p && q)) := by
  unfold eChain; rw [h1]; show M.bind (f ρ) _ = _; rw [h2]; show M.bind (M.lift (op1 x y)) _ = _; rw [h]
  cases p with
  | true => show M.bind (g ρ) _ = _; rw [h3]; show M.lift (op2 y z) = _; rw [h']; rfl
  | false => rfl
theorem seqS_list {e : EX} {ds : List D} (h : e ρ = M.pure (.list ds)) : itS e ρ = M.pure ds := by unfold itS; rw [h]; rfl
theorem seqS_tup {e : EX} {ds : List D} (h : e ρ = M.pure (.tuple ds)) : itS e ρ = M.pure ds := by unfold itS; rw [h]; rfl
theorem inR_nat {j : Nat} (hj : j < 4611686018427387904) : inR (j : Int) = true := by
  unfold inR
  rw [Bool.and_eq_true, decide_eq_true_eq, decide_eq_true_eq]
  constructor <;> omega
theorem rngL0 (j : Nat) : rngL 0 (j : Int).toNat = (List.range j).map fun i => PyData.int (i : Nat) := by
  unfold rngL
  rw [Int.toNat_natCast]
  exact List.map_congr_left fun i _ => by rw [Int.zero_add]
theorem r1_ok {e : EX} {j : Nat} (h : e ρ = M.pure (.int j)) (hj : j < 4611686018427387904) : itR1 e ρ = M.pure ((List.range j).map fun i => .int (i : Nat)) := by
  unfold itR1
  rw [h, M.pure_bind]
  dsimp only
  rw [if_pos (inR_nat hj), rngL0]
end
/-! ### indices -/
theorem ixD_list {ds : List D} {i : Nat} {d : D} (h : ds[i]? = some d) : dIx (.list ds) (.int (i : Nat)) = some d := by
  have hl : i < ds.length := (List.getElem?_eq_some_iff.mp h).1
  show atI ds (i : Int) = some d
  unfold atI ixN
  rw [if_pos (by omega), if_pos (by omega)]
  simpa using h
theorem ixD_tup {ds : List D} {i : Nat} {d : D} (h : ds[i]? = some d) : dIx (.tuple ds) (.int (i : Nat)) = some d := by
  have hl : i < ds.length := (List.getElem?_eq_some_iff.mp h).1
  show atI ds (i : Int) = some d
  unfold atI ixN
  rw [if_pos (by omega), if_pos (by omega)]
  simpa using h
theorem ixD_last {ds : List D} {d : D} : dIx (.list (ds ++ [d])) (.int (-1)) = some d := by
  show atI (ds ++ [d]) (-1) = some d
  unfold atI ixN
  rw [if_neg (by omega), if_pos (by rw [List.length_append]; simp; omega)]
  have e : ((-1 : Int) + ((ds ++ [d]).length : Int)).toNat = ds.length := by rw [List.length_append]; simp; omega
  rw [e]
  simp
/-! ### the dice -/
/-- k rolls are left -/
def Valid (k : Nat) (δ : Dice) : Prop := ∃ a b c : Int, δ = [a, b, c] ∧ 0 ≤ c ∧ c + k ≤ 4294967296
theorem Valid.less {j k : Nat} {δ : Dice} (h : Valid k δ) (hj : j ≤ k) : Valid j δ := by
  obtain ⟨a, b, c, e, h0, h1⟩ := h
  exact ⟨a, b, c, e, h0, by omega⟩
theorem roll_go {k : Nat} {δ : Dice} {m : Int} (h : Valid (k + 1) δ) (h0 : 0 < m) (h1 : m < 1073741824) : Good (m_roll [.int m]) δ fun d δ' => ∃ r : Int, d = .int r ∧ 0 ≤ r ∧ r < m ∧ Valid k δ' := by
  obtain ⟨a, b, c, rfl, hc, hk⟩ := h
  unfold Good m_roll
  dsimp only
  unfold rollD
  have g : 0 < m ∧ m < 1073741824 ∧ 0 ≤ c ∧ c < 4294967296 := ⟨h0, h1, hc, by omega⟩
  dsimp only
  rw [if_pos g]
  by_cases ha : 0 < a
  · rw [if_pos ha]
    exact ⟨_, _, rfl, _, rfl, Int.fmod_nonneg_of_pos _ h0, Int.fmod_lt_of_pos _ h0, a.fdiv m, b, c, rfl, hc, by omega⟩
  · rw [if_neg ha]
    exact ⟨_, _, rfl, _, rfl, Int.fmod_nonneg_of_pos _ h0, Int.fmod_lt_of_pos _ h0, a, _, c + 1, rfl, by omega, by push_cast at hk; omega⟩
theorem Good.roll {k i : Nat} {δ : Dice} {m : Int} {ρ : En} {l : EL} {P : D → Dice → Prop} (h : Valid (k + 1) δ) (hi : dAt ρ i = true) (hl : l ρ = M.pure [.int m]) (h0 : 0 < m) (h1 : m < 1073741824) (q : ∀ (r : Int) δ', 0 ≤ r → r < m → Valid k δ' → P (.int r) δ') : Good (eCallD i m_roll l ρ) δ P := by
  unfold eCallD
  rw [if_pos hi, hl]
  refine (roll_go h h0 h1).imp fun d δ' ⟨r, e, a, b, v⟩ => ?_
  rw [e]; exact q r δ' a b v
end Lay

set_option Elab.async false
set_option linter.all false
set_option maxRecDepth 100000
set_option maxHeartbeats 2000000
/-! Defs' ends, loops by what they do, pairs of ints -/
namespace Lay
open PySem PySem.Spec PyProof.Rows L2

theorem mkF_rt {np n : Nat} {b : ST} {ds : List D} {x : D} (h : b (ds.map (fun d => some (.v d)) ++ List.replicate (n - np) none) = M.pure (.rt x)) (hl : ds.length = np := by rfl) : mkF np n b ds = M.pure x := by
  unfold mkF; rw [if_pos hl, h]; rfl
theorem mkF_nx {np n : Nat} {b : ST} {ds : List D} {ρ : En} (h : b (ds.map (fun d => some (.v d)) ++ List.replicate (n - np) none) = M.pure (.nx ρ)) (hl : ds.length = np := by rfl) : mkF np n b ds = M.pure .none := by
  unfold mkF; rw [if_pos hl, h]; rfl
theorem mkF_err {np n : Nat} {b : ST} {ds : List D} {e : Str} (h : b (ds.map (fun d => some (.v d)) ++ List.replicate (n - np) none) = M.err e) (hl : ds.length = np := by rfl) : mkF np n b ds = M.err e := by
  unfold mkF; rw [if_pos hl, h]; rfl
section
variable {tg : Tg} {vs : List Nat} {b : ST} {γ S : Type}
/-- the first turn that returns -/
theorem for_find (enc : γ → D) (step : γ → Option D) (ρ0 : En) : ∀ (xs : List γ), (∀ x ∈ xs, ∃ ρ1, bindT tg ρ0 (enc x) = some ρ1 ∧ ((∃ d, step x = some d ∧ b ρ1 = M.pure (.rt d)) ∨ (step x = none ∧ ∃ ρ2, b ρ1 = M.pure (.nx ρ2) ∧ clr ρ2 vs = ρ0))) → ∀ ρ, clr ρ vs = ρ0 →
    forL tg vs b (xs.map enc) ρ = match xs.findSome? step with
      | some d => M.pure (.rt d)
      | none => M.pure (.nx ρ0)
  | [], _, ρ, hρ => by
    show M.pure (Fl.nx (clr ρ vs)) = _
    rw [hρ]; rfl
  | x :: xs, h, ρ, hρ => by
    obtain ⟨ρ1, h1, h2⟩ := h x List.mem_cons_self
    rw [List.map_cons]
    rcases h2 with ⟨d, hs, hb⟩ | ⟨hs, ρ2, hb, hc⟩
    · rw [for_rt (by rw [hρ]; exact h1) hb, List.findSome?_cons, hs]
    · rw [for_nx (by rw [hρ]; exact h1) hb, for_find enc step ρ0 xs (fun y hy => h y (List.mem_cons_of_mem _ hy)) ρ2 hc, List.findSome?_cons, hs]
/-- all turns go on; Inv is told of what is left -/
theorem for_fold (enc : γ → D) (R : S → En) (f : S → γ → S) (Inv : List γ → S → Prop) : ∀ (xs : List γ) (s : S) (ρ : En), (∀ x r s, Inv (x :: r) s → ∃ ρ1 ρ2, bindT tg (R s) (enc x) = some ρ1 ∧ b ρ1 = M.pure (.nx ρ2) ∧ clr ρ2 vs = R (f s x) ∧ Inv r (f s x)) → Inv xs s → clr ρ vs = R s →
    forL tg vs b (xs.map enc) ρ = M.pure (.nx (R (xs.foldl f s)))
  | [], s, ρ, _, _, hρ => by
    show M.pure (Fl.nx (clr ρ vs)) = _
    rw [hρ]; rfl
  | x :: xs, s, ρ, h, hi, hρ => by
    obtain ⟨ρ1, ρ2, h1, h2, h3, h4⟩ := h x xs s hi
    rw [List.map_cons, for_nx (by rw [hρ]; exact h1) h2]
    exact for_fold enc R f Inv xs (f s x) ρ2 h h4 h3
/-- turns with dice: an invariant by the number of the turn -/
theorem Good.for {enc : γ → D} {P : Fl → Dice → Prop} (Inv : List γ → En → Dice → Prop) : ∀ (xs : List γ) (ρ : En) (δ : Dice), (∀ x r ρ δ, Inv (x :: r) ρ δ → ∃ ρ1, bindT tg (clr ρ vs) (enc x) = some ρ1 ∧ Good (b ρ1) δ fun f δ' => match f with
      | .nx ρ2 => Inv r ρ2 δ'
      | _ => False) → (∀ ρ δ, Inv [] ρ δ → P (.nx (clr ρ vs)) δ) → Inv xs ρ δ → Good (forL tg vs b (xs.map enc) ρ) δ P
  | [], ρ, δ, _, he, hi => ⟨_, _, rfl, he ρ δ hi⟩
  | x :: xs, ρ, δ, h, he, hi => by
    obtain ⟨ρ1, h1, h2⟩ := h x xs ρ δ hi
    rw [List.map_cons]
    show Good (M.bind (M.lift (bindT tg (clr ρ vs) (enc x))) _) δ P
    rw [h1]
    refine Good.bind (Good.pure (Good.bind (h2.imp fun f δ' q => ?_)))
    cases f with
    | nx ρ2 => exact Good.for Inv xs ρ2 δ' h he q
    | rt d => exact q.elim
    | bk ρ2 => exact q.elim
    | ct ρ2 => exact q.elim
end
section
variable {ρ : En} {δ : Dice}
theorem chain3_t {o1 o2 o3 : D → D → Option D} {e f g h : EX} {x y z w : D} {p : Bool} (h1 : e ρ = M.pure x) (h2 : f ρ = M.pure y) (k1 : o1 x y = some (.bool true)) (h3 : g ρ = M.pure z) (k2 : o2 y z = some (.bool true)) (h4 : h ρ = M.pure w) (k3 : o3 z w = some (.bool p)) : eChain3 o1 o2 o3 e f g h ρ = M.pure (.bool p) := by
  unfold eChain3; rw [h1]; show M.bind (f ρ) _ = _; rw [h2]; show M.bind (M.lift (o1 x y)) _ = _; rw [k1]
  show M.bind (g ρ) _ = _; rw [h3]; show M.bind (M.lift (o2 y z)) _ = _; rw [k2]
  show M.bind (h ρ) _ = _; rw [h4]; show M.lift (o3 z w) = _; rw [k3]; rfl
theorem tup_ok {l : EL} {xs : List D} (h : l ρ = M.pure xs) (hl : xs.length ≤ 16777216) : eTup l ρ = M.pure (.tuple xs) := by
  unfold eTup; rw [h]; show (if xs.length ≤ sizeLine then _ else _) = _; rw [if_pos (by rw [sizeLine_eq]; exact hl)]
theorem lst_ok {l : EL} {xs : List D} (h : l ρ = M.pure xs) (hl : xs.length ≤ 16777216) : eLst l ρ = M.pure (.list xs) := by
  unfold eLst; rw [h]; show (if xs.length ≤ sizeLine then _ else _) = _; rw [if_pos (by rw [sizeLine_eq]; exact hl)]
theorem add_list {xs ys : List D} (hl : xs.length + ys.length ≤ 16777216) : dAdd (.list xs) (.list ys) = some (.list (xs ++ ys)) := by
  show (if xs.length + ys.length ≤ sizeLine then _ else _) = _; rw [if_pos (by rw [sizeLine_eq]; exact hl)]
theorem add_tup {xs ys : List D} (hl : xs.length + ys.length ≤ 16777216) : dAdd (.tuple xs) (.tuple ys) = some (.tuple (xs ++ ys)) := by
  show (if xs.length + ys.length ≤ sizeLine then _ else _) = _; rw [if_pos (by rw [sizeLine_eq]; exact hl)]
end
/-! ### pairs -/
theorem pairsD_map : ∀ ps : List (Int × Int), pairsD (ps.map ofP) = some ps
  | [] => rfl
  | p :: ps => by
    rw [List.map_cons]
    unfold pairsD
    rw [pairsD_map ps]
    rfl
theorem intsD_map : ∀ ns : List Int, intsD (ns.map .int) = some ns
  | [] => rfl
  | n :: ns => by
    rw [List.map_cons]
    show (intsD (ns.map .int)).map (n :: ·) = _
    rw [intsD_map ns]; rfl
theorem boolsD_map {γ : Type} (f : γ → Bool) : ∀ xs : List γ, boolsD (xs.map fun x => .bool (f x)) = some (xs.map f)
  | [] => rfl
  | n :: ns => by
    rw [List.map_cons]
    show (boolsD (ns.map _)).map (f n :: ·) = _
    rw [boolsD_map f ns]; rfl
theorem sortP_go {ps : List (Int × Int)} (h : ps ≠ []) : dAlt dSortI dSortP [.list (ps.map ofP)] = some (.list ((sortP ps).map ofP)) := by
  cases ps with
  | nil => exact absurd rfl h
  | cons p ps =>
    have e : dSortI [.list ((p :: ps).map ofP)] = none := rfl
    unfold dAlt
    rw [e]
    show (pairsD ((p :: ps).map ofP)).map _ = _
    rw [pairsD_map]; rfl
/-! ### equality of plain data -/
mutual
/-- no truth value, no text, no dict; at most n deep -/
def plain : Nat → D → Bool
  | _, .none => true
  | _, .int _ => true
  | n + 1, .list ds => plains n ds
  | n + 1, .tuple ds => plains n ds
  | _, _ => false
def plains : Nat → List D → Bool
  | _, [] => true
  | n, d :: ds => plain n d && plains n ds
end
mutual
theorem eqv_plain : ∀ (n : Nat) (d e : D) (m : Nat), plain n d = true → plain m e = true → (PyData.eqv d e = true ↔ d = e)
  | _, .none, e, m, _, h => by cases e <;> simp [PyData.eqv, plain] at h ⊢
  | _, .int i, e, m, _, h => by cases e <;> simp [PyData.eqv, plain] at h ⊢
  | n + 1, .list ds, e, m, h, h' => by
    cases e with
    | list es =>
      cases m with
      | zero => cases h'
      | succ m =>
        have := eqv_plains n ds es m h h'
        simp only [PyData.eqv, this, PyData.list.injEq]
    | _ => first | (simp [PyData.eqv]; done) | cases h'
  | n + 1, .tuple ds, e, m, h, h' => by
    cases e with
    | tuple es =>
      cases m with
      | zero => cases h'
      | succ m =>
        have := eqv_plains n ds es m h h'
        simp only [PyData.eqv, this, PyData.tuple.injEq]
    | _ => first | (simp [PyData.eqv]; done) | cases h'
  | 0, .list ds, e, m, h, _ => by cases h
  | 0, .tuple ds, e, m, h, _ => by cases h
  | n, .bool c, e, m, h, _ => by cases n <;> cases h
  | n, .str c, e, m, h, _ => by cases n <;> cases h
  | n, .dict c, e, m, h, _ => by cases n <;> cases h
theorem eqv_plains : ∀ (n : Nat) (ds es : List D) (m : Nat), plains n ds = true → plains m es = true → (PyData.eqvAll ds es = true ↔ ds = es)
  | _, [], [], _, _, _ => by simp [PyData.eqvAll]
  | _, [], _ :: _, _, _, _ => by simp [PyData.eqvAll]
  | _, _ :: _, [], _, _, _ => by simp [PyData.eqvAll]
  | n, d :: ds, e :: es, m, h, h' => by
    have h : (plain n d && plains n ds) = true := h
    have h' : (plain m e && plains m es) = true := h'
    rw [Bool.and_eq_true] at h h'
    have a := eqv_plain n d e m h.1 h'.1
    have b := eqv_plains n ds es m h.2 h'.2
    show (PyData.eqv d e && PyData.eqvAll ds es) = true ↔ _
    rw [Bool.and_eq_true, a, b, List.cons.injEq]
end
mutual
theorem plain_shape : ∀ (n : Nat) (d : D), plain n d = true → d.canLay0 = true ∧ d.depth ≤ n
  | n, .none, _ => ⟨rfl, by show 0 ≤ n; omega⟩
  | n, .int i, _ => ⟨rfl, by show 0 ≤ n; omega⟩
  | n + 1, .list ds, h => by
    have := plains_shape n ds h
    exact ⟨this.1, Nat.succ_le_succ this.2⟩
  | n + 1, .tuple ds, h => by
    have := plains_shape n ds h
    exact ⟨this.1, Nat.succ_le_succ this.2⟩
  | 0, .list ds, h => by cases h
  | 0, .tuple ds, h => by cases h
  | n, .bool c, h => by cases n <;> cases h
  | n, .str c, h => by cases n <;> cases h
  | n, .dict c, h => by cases n <;> cases h
theorem plains_shape : ∀ (n : Nat) (ds : List D), plains n ds = true → PyData.canLayAll0 ds = true ∧ PyData.depthAll ds ≤ n
  | n, [], _ => ⟨rfl, by show 0 ≤ n; omega⟩
  | n, d :: ds, h => by
    have h : (plain n d && plains n ds) = true := h
    rw [Bool.and_eq_true] at h
    have a := plain_shape n d h.1
    have b := plains_shape n ds h.2
    refine ⟨by show (d.canLay0 && PyData.canLayAll0 ds) = true; rw [a.1, b.1]; rfl, ?_⟩
    show max d.depth (PyData.depthAll ds) ≤ n
    omega
end
theorem shaped_plain {n : Nat} {d : D} (h : plain n d = true) (hn : n ≤ 64) : SeqAt.shaped d = true := by
  have := plain_shape n d h
  unfold SeqAt.shaped
  rw [this.1, decide_eq_true (by omega)]; rfl
theorem eqD_true {n m : Nat} {d e : D} (h : plain n d = true) (h' : plain m e = true) (hn : n ≤ 64) (hm : m ≤ 64) (c : Prop) [Decidable c] (hc : d = e ↔ c) : dEq d e = some (.bool (decide c)) := by
  unfold dEq
  rw [shaped_plain h hn, shaped_plain h' hm]
  show some (PyData.bool (PyData.eqv d e)) = _
  have := eqv_plain n d e m h h'
  by_cases hh : c
  · rw [decide_eq_true hh, this.mpr (hc.mpr hh)]
  · rw [decide_eq_false hh]
    cases hv : PyData.eqv d e with
    | true => exact absurd (hc.mp (this.mp hv)) hh
    | false => rfl
theorem neD_true {n m : Nat} {d e : D} (h : plain n d = true) (h' : plain m e = true) (hn : n ≤ 64) (hm : m ≤ 64) (c : Prop) [Decidable c] (hc : d = e ↔ c) : dNe d e = some (.bool (!decide c)) := by
  have := eqD_true h h' hn hm c hc
  unfold dEq at this
  unfold dNe
  rw [shaped_plain h hn, shaped_plain h' hm] at this ⊢
  have e2 := Option.some.inj this
  have e3 : PyData.eqv d e = decide c := PyData.bool.inj e2
  show some (PyData.bool (!PyData.eqv d e)) = _
  rw [e3]
theorem plain_ints {n : Nat} : ∀ ns : List Int, plains n (ns.map .int) = true
  | [] => rfl
  | i :: ns => by
    show (plain n (.int i) && plains n (ns.map .int)) = true
    rw [plain_ints ns]
    cases n <;> rfl
theorem plain_pairs {n : Nat} : ∀ ps : List (Int × Int), plains (n + 1) (ps.map ofP) = true
  | [] => rfl
  | p :: ps => by
    show (plain (n + 1) (ofP p) && plains (n + 1) (ps.map ofP)) = true
    rw [plain_pairs ps]
    have : plain (n + 1) (ofP p) = true := by
      show (plain n (.int p.1) && (plain n (.int p.2) && plains n [])) = true
      cases n <;> rfl
    rw [this]; rfl
theorem ofP_inj {a b : Int × Int} (h : ofP a = ofP b) : a = b := by
  unfold ofP at h
  injection h with h
  injection h with h1 h2
  injection h1 with h1
  injection h2 with h2 _
  injection h2 with h2
  exact Prod.ext h1 h2
theorem map_inj {α β : Type} {f : α → β} (h : ∀ a b, f a = f b → a = b) : ∀ {xs ys : List α}, xs.map f = ys.map f → xs = ys
  | [], [], _ => rfl
  | [], _ :: _, e => by cases e
  | _ :: _, [], e => by cases e
  | x :: xs, y :: ys, e => by
    rw [List.map_cons, List.map_cons] at e
    injection e with e1 e2
    rw [h x y e1, map_inj h e2]
theorem int_inj (a b : Int) (h : PyData.int a = PyData.int b) : a = b := by injection h
end Lay

set_option Elab.async false
set_option linter.all false
set_option maxRecDepth 100000
set_option maxHeartbeats 2000000
/-! The law's helpers: the dice, calls by name, what is told -/
namespace Lay
open PySem PySem.Spec PyProof.Rows L2
section
variable {ρ : En} {δ : Dice} {P : D → Dice → Prop}
theorem kw_ok {m : List D → M D} {n : Nat} {g1 g2 : EL} {ds es : List D} (h1 : g1 ρ = M.pure ds) (h2 : g2 ρ = M.pure es) : eCallKw m n g1 g2 ρ = m (gk n ds es) := by
  unfold eCallKw; rw [h1]; show M.bind (g2 ρ) _ = _; rw [h2]; rfl
theorem asg_ok {tg : Tg} {e : EX} {d : D} {ρ' : En} (h : e ρ = M.pure d) (hb : bindT tg ρ d = some ρ') : sAsg tg e ρ = M.pure (.nx ρ') := by
  unfold sAsg; rw [h]; show M.bind (M.lift (bindT tg ρ d)) _ = _; rw [hb]; rfl
theorem told_ok {f : EX} {nm : Str} (h : f (onlyV ρ) = M.err nm) : eTold f ρ = M.pure (.str nm) := by
  funext δ
  unfold eTold
  rw [h]; rfl
theorem Good.set {i : Nat} {e : EX} {Q : Fl → Dice → Prop} (hl : i < ρ.length) (h : Good (e ρ) δ fun d δ' => Q (.nx (setV ρ i d)) δ') : Good (sSet i e ρ) δ Q := by
  unfold sSet
  refine Good.bind (h.imp fun d δ' q => ?_)
  show Good (if i < ρ.length then _ else _) δ' Q
  rw [if_pos hl]
  exact .pure q
theorem Good.bin {op : D → D → Option D} {e f : EX} {P : D → Dice → Prop} (h : Good (e ρ) δ fun x δ1 => Good (f ρ) δ1 fun y δ2 => ∃ z, op x y = some z ∧ P z δ2) : Good (eBin op e f ρ) δ P := by
  unfold eBin
  refine Good.bind (h.imp fun x δ1 h1 => Good.bind (h1.imp fun y δ2 ⟨z, hz, q⟩ => ?_))
  show Good (M.lift (op x y)) δ2 P
  rw [hz]
  exact .pure q
theorem Good.cons {e : EX} {l : EL} {P : List D → Dice → Prop} (h : Good (e ρ) δ fun x δ1 => Good (l ρ) δ1 fun xs δ2 => P (x :: xs) δ2) : Good (lCons e l ρ) δ P := by
  unfold lCons
  exact Good.bind (h.imp fun x δ1 h1 => Good.bind (h1.imp fun xs δ2 q => Good.pure q))
theorem Good.nil {P : List D → Dice → Prop} (h : P [] δ) : Good (lNil ρ) δ P := .pure h
theorem Good.lst {l : EL} (h : Good (l ρ) δ fun xs δ1 => xs.length ≤ 16777216 ∧ P (.list xs) δ1) : Good (eLst l ρ) δ P := by
  unfold eLst
  refine Good.bind (h.imp fun xs δ1 ⟨hl, q⟩ => ?_)
  show Good (if xs.length ≤ sizeLine then _ else _) δ1 P
  rw [if_pos (by rw [sizeLine_eq]; exact hl)]
  exact .pure q
theorem Good.tup {l : EL} (h : Good (l ρ) δ fun xs δ1 => xs.length ≤ 16777216 ∧ P (.tuple xs) δ1) : Good (eTup l ρ) δ P := by
  unfold eTup
  refine Good.bind (h.imp fun xs δ1 ⟨hl, q⟩ => ?_)
  show Good (if xs.length ≤ sizeLine then _ else _) δ1 P
  rw [if_pos (by rw [sizeLine_eq]; exact hl)]
  exact .pure q
theorem Good.app {i : Nat} {e : EX} {ds : List D} {Q : Fl → Dice → Prop} (hg : getO ρ i = some ds) (hl : ds.length < 16777216) (h : Good (e ρ) δ fun d δ' => Q (.nx (setO ρ i (ds ++ [d]))) δ') : Good (sApp i e ρ) δ Q := by
  unfold sApp
  rw [hg]
  show Good (M.bind (e ρ) _) δ Q
  refine Good.bind (h.imp fun d δ' q => ?_)
  show Good (if ds.length < sizeLine then _ else _) δ' Q
  rw [if_pos (by rw [sizeLine_eq]; exact hl)]
  exact .pure q
theorem Good.sfor {tg : Tg} {it : EL} {vs : List Nat} {b : ST} {Q : Fl → Dice → Prop} (h : Good (it ρ) δ fun ds δ' => Good (forL tg vs b ds ρ) δ' Q) : Good (sFor tg it vs b ρ) δ Q := by
  unfold sFor
  exact Good.bind h
/-- a range of a rolled number -/
theorem Good.r1 {e : EX} {P : List D → Dice → Prop} (h : Good (e ρ) δ fun d δ' => ∃ j : Nat, d = .int j ∧ j < 4611686018427387904 ∧ P ((List.range j).map fun i => .int (i : Nat)) δ') : Good (itR1 e ρ) δ P := by
  unfold itR1
  refine Good.bind (h.imp fun d δ' ⟨j, e1, hj, q⟩ => ?_)
  subst e1
  dsimp only
  rw [if_pos (inR_nat hj), rngL0]
  exact .pure q
/-- one of a list of things -/
def m_pick : List D → M D := mkD 1 2 (sRet (eBin dIx (eVar 1) (eCallD 0 m_roll (lCons (eCallB dLen (lCons (eVar 1) lNil)) lNil))))
theorem pick_go {k : Nat} {xs : List D} (h : Valid (k + 1) δ) (h0 : xs ≠ []) (h1 : xs.length ≤ 16777216) : Good (m_pick [.list xs]) δ fun d δ' => d ∈ xs ∧ Valid k δ' := by
  unfold m_pick mkD
  have hp : 0 < xs.length := List.length_pos_iff.mpr h0
  show Good (M.bind ((sRet (eBin dIx (eVar 1) (eCallD 0 m_roll (lCons (eCallB dLen (lCons (eVar 1) lNil)) lNil)))) [some .dice, some (.v (.list xs))]) _) δ _
  unfold sRet
  refine Good.bind (Good.bind (Good.bin (Good.of (a := .list xs) rfl ?_)))
  refine Good.roll (m := xs.length) h rfl (one_ok (callB_ok (ds := [.list xs]) rfl rfl)) (by omega) (by omega) fun r δ' r0 r1 v => ?_
  obtain ⟨n, rfl⟩ := Int.eq_ofNat_of_zero_le r0
  have hn : n < xs.length := by omega
  exact ⟨xs[n], ixD_list (List.getElem?_eq_getElem hn), Good.pure (Good.pure ⟨List.getElem_mem hn, v⟩)⟩
theorem Good.pick {k i : Nat} {l : EL} {xs : List D} (hi : dAt ρ i = true) (hl : Good (l ρ) δ fun ys δ' => ys = [.list xs] ∧ Valid (k + 1) δ') (h0 : xs ≠ []) (h1 : xs.length ≤ 16777216) (q : ∀ d δ', d ∈ xs → Valid k δ' → P d δ') : Good (eCallD i m_pick l ρ) δ P := by
  unfold eCallD
  rw [if_pos hi]
  refine Good.bind (hl.imp fun ys δ' ⟨e, v⟩ => ?_)
  subst e
  exact (pick_go v h0 h1).imp fun d δ' ⟨a, b⟩ => q d δ' a b
end
/-! the body of a law -/
theorem lawD {n : Nat} {b : ST} {δ : Dice} (h : Good (b (some .dice :: List.replicate n none)) δ fun f _ => f = .rt (.bool true)) : ∃ δ', mkD 0 (n + 1) b [] δ = some (.ok (.bool true), δ') := by
  have : Good (mkD 0 (n + 1) b []) δ fun d _ => d = .bool true := by
    unfold mkD
    show Good (M.bind (b (some .dice :: List.replicate n none)) _) δ _
    refine Good.bind (h.imp fun f δ' e => ?_)
    subst e
    exact Good.pure rfl
  obtain ⟨d, δ', e, rfl⟩ := this
  exact ⟨δ', e⟩
end Lay

set_option Elab.async false
set_option linter.all false
set_option maxRecDepth 100000
set_option maxHeartbeats 2000000
/-! More for the laws' own bodies -/
namespace Lay
open PySem PySem.Spec PyProof.Rows L2
section
variable {ρ : En} {δ : Dice} {P : D → Dice → Prop}
theorem Good.pick2 {k i : Nat} {l : EL} (hi : dAt ρ i = true) (hl : Good (l ρ) δ fun ys δ' => ∃ xs, ys = [.list xs] ∧ Valid (k + 1) δ' ∧ xs ≠ [] ∧ xs.length ≤ 16777216 ∧ ∀ d δ', d ∈ xs → Valid k δ' → P d δ') : Good (eCallD i m_pick l ρ) δ P := by
  unfold eCallD
  rw [if_pos hi]
  refine Good.bind (hl.imp fun ys δ' ⟨xs, e, v, h0, h1, q⟩ => ?_)
  subst e
  exact (pick_go v h0 h1).imp fun d δ' ⟨a, b⟩ => q d δ' a b
theorem Good.par3O {i j l : Nat} {a b : EX} {Q : Fl → Dice → Prop} (hi : i < ρ.length) (hj : j < ρ.length) (hl : l < ρ.length) (h : Good (a ρ) δ fun x δ1 => Good (b ρ) δ1 fun y δ2 => Q (.nx (setO (setV (setV ρ i x) j y) l [])) δ2) (hL : noL ρ = true := by rfl) : Good (sPar3O i j l a b lNil ρ) δ Q := by
  unfold sPar3O
  refine Good.bind (h.imp fun x δ1 h1 => Good.bind (h1.imp fun y δ2 q => ?_))
  show Good (if ([] : List D).length ≤ sizeLine ∧ i < ρ.length ∧ j < ρ.length ∧ l < ρ.length ∧ noL ρ = true then _ else _) δ2 Q
  rw [if_pos ⟨by rw [sizeLine_eq]; decide, hi, hj, hl, hL⟩]
  exact .pure q
/-- names of errors: what is told is what is due -/
theorem strs_shape : ∀ l : List Str, l.all PyData.strOk = true → PyData.canLayAll0 (l.map .str) = true ∧ PyData.depthAll (l.map PyData.str) ≤ 0
  | [], _ => ⟨rfl, Nat.le_refl _⟩
  | x :: l, h => by
    rw [List.all_cons, Bool.and_eq_true] at h
    have ih := strs_shape l h.2
    refine ⟨?_, ?_⟩
    · show (PyData.canLay0 (.str x) && PyData.canLayAll0 (l.map .str)) = true
      rw [ih.1, show PyData.canLay0 (.str x) = true from h.1]; rfl
    · show max (PyData.depth (.str x)) (PyData.depthAll (l.map PyData.str)) ≤ 0
      have : PyData.depth (.str x) = 0 := rfl
      omega
theorem strs_eq (l : List Str) (hok : l.all PyData.strOk = true) : dEq (.list (l.map .str)) (.list (l.map .str)) = some (.bool true) := by
  have h := strs_shape l hok
  have ca : PyData.canLay0 (.list (l.map .str)) = true := h.1
  have sh : SeqAt.shaped (PyData.list (l.map .str)) = true := by
    unfold SeqAt.shaped
    rw [ca, decide_eq_true (by
      show PyData.depthAll (l.map PyData.str) + 1 ≤ 64
      omega)]
    rfl
  unfold dEq
  rw [sh]
  show some (PyData.bool (PyData.eqv (.list (l.map .str)) (.list (l.map .str)))) = _
  rw [PySem.SeqAt.eqv_refl _ ca]
theorem enot_ok {e : EX} {x : Bool} (h : e ρ = M.pure (.bool x)) : eNot e ρ = M.pure (.bool !x) := by unfold eNot; rw [h]; rfl
end
end Lay

set_option Elab.async false
set_option linter.all false
set_option maxRecDepth 100000
set_option maxHeartbeats 4000000
/-! Rules for k01: the greatest of a tuple, ranges by steps, sets of ints sorted, a list of the frame's own from another -/
namespace Lay
open PySem PySem.Spec PyProof.Rows L2

/-! ### the greatest of a tuple of ints -/
def rMaxT (K : PySem.W.Frag) : List V → Hp → VK → Prop := fun vs H Q => ∃ (a : Addr) (ns : List Int), vs = [V.ref a] ∧ SqT K H a (ns.map V.int) ∧ 0 < ns.length ∧ ∀ m, m ∈ ns → (∀ y, y ∈ ns → y ≤ m) → Q (.int m) H
theorem cr_maxT {X : Cx} (hc : X.calm = true) : CallR X (.builtin "max") (rMaxT X.K) := by
  intro pins s σ H vs us Q I r h
  obtain ⟨a, ns, rfl, hs, hne, q⟩ := h
  obtain ⟨its, rv, hl, _⟩ := I.tuple hs
  rw [Vals.ref1 r]
  have hlt : a < s.heap.objs.size := by obtain ⟨o, ho, _⟩ := hl; exact Heap.lt_size ho
  have hi := rv.ints
  have hsz : its.toArray.size = ns.length := by rw [List.size_toArray]; exact hi.length
  have hval : ∀ (i : Nat) (v : Value), its.toArray[i]? = some v → ∃ t, v = Value.int (ns.getD i 0) t := fun i v hv => PyProof.Rows.IntsAre.int_at hi i v (by simpa using hv)
  refine call_max_walk (wpAny_pyIter_tuple hl ?_)
  refine ⟨_, _, _, _, _, _, _, rfl, Walks.tuple (A := X.A.in1) (I.ok.hd hc) s.heap.objs.size a (Nat.ne_of_lt hlt) its.toArray, ⟨⟨_, Heap.get?_push_size _ rfl, rfl, rfl⟩, hl.push _⟩, fun b hb => ?_, by rw [hsz]; exact hne, CmpOf.ints_gt (fun i => ns.getD i 0) hval, fun v h' tk hP hk => ?_⟩
  · rw [Heap.size_push]
    rcases List.mem_cons.mp hb with e | hb
    · rw [e]; exact Nat.lt_succ_self _
    · rw [List.mem_singleton.mp hb]; exact Nat.lt_succ_of_lt hlt
  · obtain ⟨t, rfl⟩ := hval _ v hP
    obtain ⟨b1, b2⟩ := argBest_gt (fun i => ns.getD i 0) (its.toArray.size - 1)
    refine ⟨.int _, H, I.kept (t' := tk) fun b u e => hk b u (fun hm => ?_) (Heap.get?_push_of_some _ e), ⟨t, rfl⟩, q _ ?_ fun j hj => ?_⟩
    · have e2 := Heap.lt_size e
      rw [List.mem_singleton.mp hm] at e2
      exact absurd e2 (Nat.lt_irrefl _)
    · have hb : argBest (fun i j => decide (ns.getD i 0 > ns.getD j 0)) (its.toArray.size - 1) < ns.length := by omega
      rw [List.getD_eq_getElem?_getD, List.getElem?_eq_getElem hb]
      exact List.getElem_mem hb
    · obtain ⟨i, hi', e⟩ := List.mem_iff_getElem.mp hj
      have e2 : ns.getD i 0 = j := by rw [List.getD_eq_getElem?_getD, List.getElem?_eq_getElem hi', ← e] <;> rfl
      rw [← e2]
      exact b2 i (by omega)
def dMaxT : List D → Option D
  | [.tuple ds] => (intsD ds).bind fun ns => (maxI ns).map .int
  | _ => none
section
variable {C : Ct}
theorem one_tup {F : Hp} {vs : List V} {ds : List D} (r : RpA F vs [.tuple ds]) : ∃ a xs, vs = [V.ref a] ∧ F a = some (.tup xs) ∧ RpA F xs ds := by
  cases r with
  | cons h1 r1 =>
    cases r1
    cases h1 with
    | @tup a xs _ h r2 => exact ⟨a, xs, rfl, h, r2⟩
theorem raw_maxT {K : PySem.W.Frag} : RawL C (rMaxT K) dMaxT := fun F H δ vs ds z Q hs r o p => by
  unfold dMaxT at o
  split at o
  · rename_i es
    obtain ⟨ns, e1, e2⟩ := Option.bind_eq_some_iff.mp o
    obtain ⟨m, e3, e4⟩ := Option.map_eq_some_iff.mp e2
    subst e4
    obtain ⟨a, xs, rfl, h1, h2⟩ := one_tup r
    have e5 := ints_rp h2 e1
    subst e5
    cases ns with
    | nil => cases e3
    | cons i r' =>
      cases (Option.some.inj e3)
      refine ⟨a, i :: r', rfl, SqT.of (hs.sub _ _ h1), by simp, fun m hm hmx => ?_⟩
      have q := maxI_ge r' i
      have em : m = r'.foldl (fun a b => if b > a then b else a) i := Int.le_antisymm (q.1 m hm) (hmx _ q.2)
      rw [em]
      exact p.val hs (.int _)
  · cases o
end
/-! ### tuple(range(i, j, c)) -/
def rngS (i c : Int) (n : Nat) : List D := (List.range n).map fun m => .int (i + (m : Nat) * c)
def rngSV (i c : Int) (n : Nat) : List V := (List.range n).map fun m => .int (i + (m : Nat) * c)
def stepN (i j c : Int) : Nat := if i < j then ((j - i - 1) / c + 1).toNat else 0
def stepOk (i j c : Int) : Bool := decide (0 ≤ i) && decide (i ≤ 1000000) && decide (0 ≤ j) && decide (j ≤ 1000000) && decide (1 ≤ c) && decide (c ≤ 1000000)
def eTupSt (l : EL) : EX := fun ρ => M.bind (l ρ) fun xs => match xs with
  | [.int i, .int j, .int k] => if stepOk i j k = true then M.pure (.tuple (rngS i k (stepN i j k))) else M.stuck
  | _ => M.stuck
def tTupSt (ta : TA) : TE := fun σ H Q => ta σ H fun vs H1 => ∃ i j k, vs = [.int i, .int j, .int k] ∧ stepOk i j k = true ∧ ∀ q, H1 q = none → Q (.ref q) (upd H1 q (.tup (rngSV i k (stepN i j k))))
theorem stepN_le {i j c : Int} (h : stepOk i j c = true) : stepN i j c ≤ 1000000 ∧ Builtin.Range.rangeSize i j c = (stepN i j c : Nat) := by
  unfold stepOk at h
  simp only [Bool.and_eq_true, decide_eq_true_eq] at h
  unfold stepN Builtin.Range.rangeSize
  rw [if_pos (show c > 0 by omega)]
  split
  · have h1 : 0 ≤ (j - i - 1) / c := Int.ediv_nonneg (by omega) (by omega)
    have h2 : (j - i - 1) / c ≤ j - i - 1 := Int.ediv_le_self _ (by omega)
    omega
  · exact ⟨Nat.zero_le _, rfl⟩
theorem step_small {i j c : Int} (h : stepOk i j c = true) : Builtin.Range.small i j c = true := by
  have hn := stepN_le h
  unfold stepOk at h
  simp only [Bool.and_eq_true, decide_eq_true_eq] at h
  unfold Builtin.Range.small
  rw [hn.2]
  simp only [Builtin.Range.rangeFitsLong, Bool.and_eq_true, Bool.or_eq_true, decide_eq_true_eq, beq_iff_eq]
  rw [if_pos (show c > 0 by omega)]
  simp only [decide_eq_true_eq, Bool.and_eq_true]
  omega
theorem rngS_len (i c : Int) (n : Nat) : (rngSV i c n).length = n := by unfold rngSV; rw [List.length_map, List.length_range]
theorem rp_rgS {F : Hp} (i c : Int) (n : Nat) : RpA F (rngSV i c n) (rngS i c n) := by
  unfold rngSV rngS
  induction List.range n with
  | nil => exact .nil
  | cons m l ih => exact .cons (.int _) ih
theorem vals_st {i c : Int} {n : Nat} {acc : Array Value} (h : ItemsOf (fun m v => ∃ t, v = .int (i + m * c) t) acc n) : Vals (rngSV i c n) acc.toList := by
  have e : acc.toList.length = n := by rw [Array.length_toList]; exact h.1
  unfold rngSV
  rw [← e]
  refine vals_of_get acc.toList _ fun j u hj => ?_
  obtain ⟨t, rfl⟩ := h.2 j u (by rw [← hj, Array.getElem?_toList])
  exact ⟨t, rfl⟩
theorem pe_tupSt {X : Cx} {a b c : Expr} {ta : TA} {p p2 q pos : Pos} (hc : X.calm = true) (hg : Gl X "tuple") (hm : X.mg "tuple" = none) (hg2 : Gl X "range") (hm2 : X.mg "range" = none) (ha : PA X [a, b, c] ta)
    (na : starEach [.Call (.Name "range" p2) [a, b, c] [] q] X.env = (false, eval (.Call (.Name "range" p2) [a, b, c] [] q) X.env) :: starEach [] X.env := by rfl)
    (hs : starEach [a, b, c] X.env = (false, eval a X.env) :: starEach [b, c] X.env := by rfl) (hpl : (backTo q (starEach [b, c] X.env)).any (·.1) = false := by rfl) :
    PE X (.Call (.Name "tuple" p) [.Call (.Name "range" p2) [a, b, c] [] q] [] pos) (tTupSt ta) := by
  refine ⟨fun pins s σ H Q I h => ?_⟩
  refine Call_ (ld_blt I hg hm boot_tuple (PyProof.Rows.callWith_type1 (args_cons ?_ na) na))
  refine Call_ (ld_blt I hg2 hm2 boot_range (PyProof.Rows.callWith_type1 (thn (ha.run q pins s σ H _ I h) fun us s1 ⟨vs, H1, I1, r1, q1⟩ => ?_) hs hpl))
  obtain ⟨i, j, k, rfl, ok, q1⟩ := q1
  cases r1 with
  | @cons _ u1 _ us2 rv rr =>
  obtain ⟨u2, u3, rfl, r2, r3⟩ := vals2 rr
  obtain ⟨t1, rfl⟩ := rv
  obtain ⟨t2, rfl⟩ := r2
  obtain ⟨t3, rfl⟩ := r3
  have hn := stepN_le ok
  have h1 : 1 ≤ k ∧ k ≤ 1000000 := by
    unfold stepOk at ok
    simp only [Bool.and_eq_true, decide_eq_true_eq] at ok
    exact ⟨ok.1.2, ok.2⟩
  refine call_range_3 (by omega) ?_ (.inl (PyProof.noPylong_small (by omega)))
  have I2 : Inv X pins σ H1 { s1 with heap := s1.heap.push { cls := .type "range", data := .fields #[.int i t1, .int j t2, .int k t3] }, toks := s1.toks } := I1.kept fun b u e => Heap.get?_push_of_some _ e
  refine args_nil (call_tuple_range (n := stepN i j k) (I2.ok.hd hc) (IsRange.new ..) (step_small ok) hn.2 (Nat.le_trans hn.1 (by decide)) fun h' tk acc hk hi => ?_)
  have I3 := I2.kept (t' := tk) hk
  refine ⟨.ref h'.objs.size, upd H1 h'.objs.size (.tup (rngSV i k (stepN i j k))), I3.laid (t' := tk) (fun c o e => Heap.get?_push_of_some _ e) (Nat.le_refl _) (show ObjOk X.prog X.w _ _ _ (.tup (rngSV i k (stepN i j k))) from ⟨?_, acc.toList, vals_st hi, ?_⟩), rfl, q1 _ (I3.hok.fresh (Nat.le_refl _))⟩
  · rw [rngS_len, sizeLine_eq]; omega
  · rw [Array.toArray_toList]; exact IsTup.new _ _
section
variable {C : Ct} {X : Cx}
theorem ev_tupSt {la : TA} {gl : EL} (h : EvA C la gl) : EvE C (tTupSt la) (eTupSt gl) := fun σ ρ F H δ Q r R e p =>
  h.then R e p.err fun ds δ1 vs F1 H1 e1 R1 s1 rp => by
    split at e1
    · rename_i i j k
      split at e1
      · rename_i hk
        cases (Option.some.inj e1).symm
        have ev := ints_rp rp (ns := [i, j, k]) rfl
        subst ev
        exact ⟨i, j, k, rfl, hk, fun q nq => ValP.tuple (p.mono s1) R1.hs nq (rp_rgS i k _)⟩
      · cases e1
    · cases e1
theorem je_tupSt {a b c : Expr} {gl : EL} {p p2 q pos : Pos} (hc : X.calm = true) (hm : X.mg "tuple" = none) (hm2 : X.mg "range" = none) (ha : JA C X [a, b, c] gl) (hg : Gl X "tuple" := by rfl) (hg2 : Gl X "range" := by rfl)
    (na : starEach [.Call (.Name "range" p2) [a, b, c] [] q] X.env = (false, eval (.Call (.Name "range" p2) [a, b, c] [] q) X.env) :: starEach [] X.env := by rfl)
    (hs : starEach [a, b, c] X.env = (false, eval a X.env) :: starEach [b, c] X.env := by rfl) (hpl : (backTo q (starEach [b, c] X.env)).any (·.1) = false := by rfl) :
    JE C X (.Call (.Name "tuple" p) [.Call (.Name "range" p2) [a, b, c] [] q] [] pos) (eTupSt gl) := je (pe_tupSt hc hg hm hg2 hm2 ha na hs hpl) (ev_tupSt eva_of)
end
/-! ### x *= y, of ints; a list of the frame's own from another -/
def dMulI : D → D → Option D
  | .int i, .int j => if (smallI i || smallI j) = true then some (.int (i * j)) else none
  | _, _ => none
section
variable {C : Ct} {X : Cx}
theorem raw_mulI : Raw2 C (rI CMul fun i j => .int (i * j)) dMulI := fun F H δ x y d e z Q hs rx ry o p => by
  unfold dMulI at o
  split at o
  · rename_i i j
    cases rx; cases ry
    split at o
    · rename_i hl
      cases (Option.some.inj o)
      refine ⟨i, j, rfl, rfl, ?_, p.val hs (.int _)⟩
      unfold smallI at hl
      simp only [Bool.or_eq_true, Bool.and_eq_true, decide_eq_true_eq] at hl
      exact hl
    · cases o
  · cases o
def rListN (K : PySem.W.Frag) : List V → Hp → VK → Prop := fun xs H Q => ∃ p ys, xs = [V.ref p] ∧ (SqL K H p ys ∨ SqT K H p ys) ∧ ∀ l, H l = none → Q (V.ref l) (upd H l (.lst ys))
def sOwnL (i : Nat) (a : EX) : ST := fun ρ => M.bind (a ρ) fun x => match x with
  | .list ds => if noL ρ = true then M.pure (.nx (setO ρ i ds)) else M.stuck
  | .tuple ds => if noL ρ = true then M.pure (.nx (setO ρ i ds)) else M.stuck
  | _ => M.stuck
theorem evs_ownL {ta : TE} {fa : EX} {i : Nat} (ha : EvE C ta fa) : EvS C (tAsg (tCB (rListN X.K) (tCons ta tNil)) (gName i)) (sOwnL i fa) := fun D' σ ρ F H δ r R e p =>
  ha.then R e p.err fun d δ1 v F1 H1 e1 R1 s1 rp => by
    cases rp with
    | @lst a xs es h1 r2 =>
      dsimp only at e1
      split at e1
      case isFalse => cases e1
      rename_i hL
      cases (Option.some.inj e1).symm
      refine ⟨a, xs, rfl, .inl (SqL.of (R1.hs.sub _ _ h1)), fun q nq => ?_⟩
      obtain ⟨R2, fq, n0, n1, n2, nj⟩ := own_new (vs := xs) R1 nq
      exact p.nx (R2.setO upd_same fq n0 r2 (fun k es hk ek => nj k es ek) hL) s1.ex
    | @tup a xs es h1 r2 =>
      dsimp only at e1
      split at e1
      case isFalse => cases e1
      rename_i hL
      cases (Option.some.inj e1).symm
      refine ⟨a, xs, rfl, .inr (SqT.of (R1.hs.sub _ _ h1)), fun q nq => ?_⟩
      obtain ⟨R2, fq, n0, n1, n2, nj⟩ := own_new (vs := xs) R1 nq
      exact p.nx (R2.setO upd_same fq n0 r2 (fun k es hk ek => nj k es ek) hL) s1.ex
    | _ => cases e1
theorem js_ownL {e : Expr} {fe : EX} {i : Nat} {x : Str} {pos pos' p q : Pos} (nd : X.N.Nodup) (ha : JE C X e fe) (hm : X.mg "list" = none) (hg : Gl X "list" := by rfl) (hi : X.N[i]? = some x := by rfl) (hx : Loc X.env.scope x := by first | exact .inl rfl | exact .inr rfl) (hs : swapsWith (.Call (.Name "list" p) [e] [] q) (some (.Name x pos')) pos.line X.env = pure false := by rfl) (hf : X.fn x = true ∨ X.env.scope.names.lookup x = some .local := by first | exact .inl rfl | exact .inr rfl)
    (he : starEach [e] X.env = (false, eval e X.env) :: starEach [] X.env := by rfl) (hpl : (backTo q (starEach [] X.env)).any (·.1) = false := by rfl) :
    JS C X (.Assign [.Name x pos'] (.Call (.Name "list" p) [e] [] q) pos) (sOwnL i fe) := js (ps_set nd hi hx (pe_callTy call_list_of hg hm Boot.«list» (pa_cons ha pa_nil he) (by decide) (by decide) he hpl) hs hf) (evs_ownL (X := X) ev_of)
end
end Lay

set_option Elab.async false
set_option linter.all false
set_option maxRecDepth 100000
set_option maxHeartbeats 4000000
/-! Rules for k01: a tuple once; sorted(set(..)) of ints -/
namespace Lay
open PySem PySem.Spec PyProof.Rows L2

theorem tup_once (b : Addr) (its : Array Value) (cn : Nat) (dd : Option Addr) (sl : Array (Option Value)) (u : Tok) :
    Meets (Builtin.«tuple.__mul__» ⟨[.ref b, .int 1 u], []⟩) (fun _ R s => s.heap.get? b = some { cls := .type "tuple", dict := dd, data := .seq its cn, slots := sl } ∧ R (.ok (.ret (Value.ref b))) s) :=
  .of_wp fun prog w A R s h => by
    obtain ⟨hp, g, dr, tk, os⟩ := s
    obtain ⟨hb, h⟩ := h
    have ix := AutoSeq1.idx_int
    have c0 : (its.isEmpty || (1 : Int) == 1) = true := by simp
    wp_walk using wpAny_loadPart' hb
    exact ⟨_, rfl, h⟩
def rRep1 (K : PySem.W.Frag) : R2 := fun x y H Q => ∃ l xs, x = .ref l ∧ y = .int 1 ∧ SqT K H l xs ∧ Q (.ref l) H
theorem op_rep1 {X : Cx} : OpR X (binaryOp .Mult) (rRep1 X.K) := by
  intro pins s σ H x y v u Q I rx ry h
  obtain ⟨b, xs, rfl, rfl, hT, q⟩ := h
  cases rx
  obtain ⟨tk, rfl⟩ := ry
  obtain ⟨its, rv, ⟨⟨cls, dd, dt, sl⟩, ho, hc, cn, hd⟩, _⟩ := I.tuple hT
  dsimp only at hc hd
  subst hc; subst hd
  have ti : s.TypeIs (.int 1 tk) "int" := typeIs_int s 1 tk
  exact wpAny_binaryOp_repeat_ref (T := "tuple") (U := "int") (by decide) ⟨_, ho, rfl⟩ (fun s' => typeIs_int s' 1 tk) noFill_tuple_mul F.fills_int_mul F.slot_int_rmul repeat_tuple F.slot_int_index.lookup
    (call_meets F.slot_int_rmul ti F.entry_int_rmul (F.args_int_rmul_2 _ _) (int_rmul_tuple 1 tk b its.toArray cn dd sl) ⟨ho, rfl, ⟨_, ho, rfl⟩,
      call_meets F.slot_tuple_mul ⟨_, ho, rfl⟩ F.entry_tuple_mul (F.args_tuple_mul_2 _ _) (tup_once b its.toArray cn dd sl tk) ⟨ho, ⟨.ref b, H, I, rfl, q⟩⟩⟩)
/-- *, a tuple once or more -/
def rMulB (K : PySem.W.Frag) : R2 := fun x y H Q => rMulA K x y H Q ∨ rRep1 K x y H Q
theorem op_mulB {X : Cx} : OpR X (binaryOp .Mult) (rMulB X.K) := op_mulA.or op_rep1
def dMulB : D → D → Option D
  | .tuple xs, .int k => if k = 1 then some (.tuple xs) else dMulA (.tuple xs) (.int k)
  | x, y => dMulA x y
section
variable {C : Ct}
theorem raw_mulB {K : PySem.W.Frag} : Raw2 C (rMulB K) dMulB := fun F H δ x y d e z Q hs rx ry o p => by
  unfold dMulB at o
  split at o
  · rename_i xs k
    split at o
    · rename_i hk
      subst hk
      cases (Option.some.inj o)
      cases ry
      cases rx with
      | @tup a vs ds h1 r1 => exact .inr ⟨a, vs, rfl, rfl, SqT.of (hs.sub _ _ h1), p.val hs (.tup h1 r1)⟩
    · exact .inl (raw_mulA F H δ _ _ _ _ _ _ hs rx ry o p)
  · exact .inl (raw_mulA F H δ _ _ _ _ _ _ hs rx ry o p)
end
/-! ### set(xs), xs a list of ints -/
abbrev nSet (w : World) : Obj := { cls := .type "set", dict := none, data := .set #[] 0 (.fresh 0 0 (!w.params.followText "set-order")) }
section
variable {P : Program} {w : World} {A : Around} {E : Value → Shared → Prop} {s : Shared}
theorem call_set_ints {b : Addr} {its : Array Value} (ns : List Int) {Q : Value → Shared → Prop} (hh : A.handled = none) (hl : s.heap.IsList b its) (hi : IntsAre its.toList ns) (hn : ns.length + 1 < scanBound)
    (h : ∀ h' tk c, SetR w h' s.heap.objs.size (fun j => decide (j ∈ ns)) c → (∀ a o, s.heap.get? a = some o → h'.get? a = some o) → Q (.ref s.heap.objs.size) { s with heap := h', toks := tk }) :
    wpAny (model P w) A (call (.type "set") [.ref b]) Q E s := by
  have len : its.size = ns.length := by rw [← Array.length_toList]; exact IntsAre.length hi
  obtain ⟨k0, k1, km⟩ := F.called_set.mro
  have f1 := F.called_set.made; have f2 := F.called_set.sub
  have f3 := F.called_set.notType; have f4 := F.called_set.canCreate
  have f5 := F.typeCall_set_1 (.ref b)
  refine wpAny_call (codeAny_of_tree (wpAny_pure ⟨Code.quiet_builtin _ (by decide +kernel), codeAny_builtin F.entry_type_call ?_⟩))
  rw [Around.under_plain (weight_type_call_type "set" [.ref b] []) rfl]
  repeat any_goals (first | assumption | wp_step)
  refine codeAny_mono (code_set_led1 (.ref b) (E := E) (Q₁ := fun ob z => ob = .ref s.heap.objs.size ∧ z = { s with heap := s.heap.push (nSet w) }) ⟨rfl, rfl⟩) fun r z hr => ?_
  rcases r with e | fl
  · exact hr
  cases fl
  case ret ob =>
    obtain ⟨rfl, rfl⟩ := hr
    have hS : (s.heap.push (nSet w)).get? s.heap.objs.size = some (nSet w) := Heap.get?_push_size _ rfl
    have hT : Shared.TypeIs { s with heap := s.heap.push (nSet w) } (.ref s.heap.objs.size) "set" := ⟨_, hS, rfl⟩
    have f6 := F.called_set.init.lookup; have f7 := F.called_set.init.bind (.ref s.heap.objs.size)
    repeat any_goals (first | assumption | wp_step)
    refine codeAny_mono (codeAny_call_builtin (R := wants (fun r z => r = .none ∧ ∃ h' tk c, z = { s with heap := h', toks := tk } ∧ SetR w h' s.heap.objs.size (fun j => decide (j ∈ ns)) c ∧ ∀ a o, s.heap.get? a = some o → h'.get? a = some o) E) F.called_set.init.plain F.entry_set_init (check_set_init_1 hT ?_)) fun r2 z2 hr2 => ?_
    · have hlt : b < s.heap.objs.size := by obtain ⟨o, ho, _⟩ := hl; exact Heap.lt_size ho
      have hl1 : (s.heap.push (nSet w)).IsList b its := hl.push _
      obtain ⟨⟨oc, od, odt, osl⟩, ho, hc, cn, hd⟩ := hl1
      dsimp only at hc hd
      subst hc; subst hd
      have hl1 : (s.heap.push (nSet w)).IsList b its := ⟨_, ho, rfl, cn, rfl⟩
      have g1 := F.sub_list_set; have g2 := F.sub_list_frozenset
      have g3 : (Value.type "list" == Value.type "dict") = false := by decide
      unfold Builtin.«set.__init__» noKeywords Builtin.Frozenset.updateFrom
      generalize hPI : pyIter = PI
      wp_walk
      subst hPI
      refine wpAny_pyIter_list hl1 (wpAny_bind (wpAny_runValue ?_))
      have z1 : (s.heap.push (nSet w)).objs.size = s.heap.objs.size + 1 := Heap.size_push ..
      have d1 : b ≠ (s.heap.push (nSet w)).objs.size := by rw [z1]; exact Nat.ne_of_lt (Nat.lt_succ_of_lt hlt)
      have d2 : s.heap.objs.size ∉ [(s.heap.push (nSet w)).objs.size, b] := by
        rw [z1]
        simp only [List.mem_cons, List.not_mem_nil, or_false, not_or]
        exact ⟨Nat.ne_of_lt (Nat.lt_succ_self _), Nat.ne_of_gt hlt⟩
      have vl : ∀ (i : Nat) (v : Value), its[i]? = some v → ∃ k t, ns[i]? = some k ∧ v = .int k t := fun i v hv => by
        have lt : i < ns.length := by rw [← len]; exact (Array.getElem?_eq_some_iff.mp hv).1
        obtain ⟨t, e⟩ := PyProof.Rows.IntsAre.int_at hi i v (by rw [Array.getElem?_toList]; exact hv)
        exact ⟨ns[i], t, List.getElem?_eq_getElem lt, by rw [e, List.getD_eq_getElem?_getD, List.getElem?_eq_getElem lt] <;> rfl⟩
      have hS2 : ((s.heap.push (nSet w)).push { cls := .type "list_iterator", data := .fields #[.ref b, .int 0 0] }).get? s.heap.objs.size = some (nSet w) := Heap.get?_push_of_some _ hS
      refine set_update_ints ((Walks.list (by simp [hh]) _ b d1 its).toS) s.heap.objs.size d2 ns len hn vl its.size 0 _ (by omega) (Nat.zero_le _) ⟨⟨_, Heap.get?_push_size _ rfl, rfl, rfl⟩, hl1.push _⟩ ⟨0, Nat.le_refl 0, setR_new_at hS2⟩ fun z' c' mv _ hS' => ?_
      obtain ⟨h', gg, dd, tt, oo⟩ := z'
      obtain rfl : gg = s.gens := mv.gens
      obtain rfl : dd = s.drawn := mv.drawn
      obtain rfl : oo = s.os := mv.os
      refine wpAny_pure (wpAny_pure ⟨rfl, h', tt, c', rfl, hS', fun a o e => ?_⟩)
      have la : a < s.heap.objs.size := Heap.lt_size e
      refine mv.heap a o ?_ (Heap.get?_push_of_some _ (Heap.get?_push_of_some _ e))
      simp only [List.mem_cons, List.not_mem_nil, or_false, not_or]
      exact ⟨Nat.ne_of_lt la, by rw [z1]; exact Nat.ne_of_lt (Nat.lt_succ_of_lt la)⟩
    · rcases r2 with e | fl
      · exact hr2
      cases fl
      case ret r =>
        obtain ⟨rfl, h', tk, c, rfl, hS', hk⟩ := hr2
        repeat any_goals (first | assumption | wp_step)
        exact h _ _ _ hS' hk
      all_goals exact hr2.elim
  all_goals exact hr.elim
end
end Lay

set_option Elab.async false
set_option linter.all false
set_option maxRecDepth 100000
set_option maxHeartbeats 4000000
/-! Rules for k01: sorted(set(..)) of ints -/
namespace Lay
open PySem PySem.Spec PyProof.Rows L2

def insS (x : Int) : List Int → List Int
  | [] => [x]
  | y :: ys => if x < y then x :: y :: ys else if x = y then y :: ys else y :: insS x ys
def sset (ns : List Int) : List Int := ns.foldr insS []
theorem insS_mem (x y : Int) : ∀ l, y ∈ insS x l ↔ y = x ∨ y ∈ l
  | [] => by unfold insS; simp
  | z :: zs => by
    unfold insS
    split
    · simp
    · split
      · rename_i h; subst h; simp
      · rw [List.mem_cons, insS_mem x y zs, List.mem_cons]
        constructor <;> rintro (h | h | h) <;> simp [h]
theorem insS_inc (x : Int) : ∀ l, l.Pairwise (· < ·) → (insS x l).Pairwise (· < ·)
  | [], _ => List.pairwise_singleton _ _
  | y :: ys, h => by
    have h' := List.pairwise_cons.mp h
    unfold insS
    split
    · rename_i hl
      refine List.pairwise_cons.mpr ⟨fun z hz => ?_, h⟩
      rcases List.mem_cons.mp hz with rfl | hz
      · exact hl
      · have := h'.1 z hz; omega
    · split
      · exact h
      · refine List.pairwise_cons.mpr ⟨fun z hz => ?_, insS_inc x ys h'.2⟩
        rcases (insS_mem x z ys).mp hz with rfl | hz
        · omega
        · exact h'.1 z hz
theorem sset_mem (y : Int) : ∀ ns, y ∈ sset ns ↔ y ∈ ns
  | [] => Iff.rfl
  | x :: ns => by
    show y ∈ insS x (sset ns) ↔ _
    rw [insS_mem, sset_mem y ns, List.mem_cons]
theorem sset_inc : ∀ ns, (sset ns).Pairwise (· < ·)
  | [] => .nil
  | x :: ns => insS_inc x _ (sset_inc ns)
theorem inc_nodup {l : List Int} (h : l.Pairwise (· < ·)) : l.Nodup := h.imp fun {a b} h => by omega
theorem inc_uniq {l m : List Int} (h1 : l.Pairwise (· < ·)) (h2 : m.Pairwise (· < ·)) (h : ∀ k, k ∈ l ↔ k ∈ m) : l = m :=
  sorted_uniq (R := (· < ·)) (fun a b h h' => by omega) h1 h2 ((List.perm_ext_iff_of_nodup (inc_nodup h1) (inc_nodup h2)).mpr h)
theorem setR_count {w : World} {h : Heap} {a : Addr} {ns : List Int} {c : Nat} (R : SetR w h a (fun j => decide (j ∈ ns)) c) : c = (sset ns).length := by
  obtain ⟨o, es, ep, t, _, _, _, _, nd, hm, _, _, hn, _⟩ := R
  have p := (List.perm_ext_iff_of_nodup nd (inc_nodup (sset_inc ns))).mpr fun k => by rw [← hm k, decide_eq_true_eq, sset_mem]
  have := p.length_eq
  rw [List.length_map, Array.length_toList] at this
  omega
section
variable {X : Cx} {a : Expr} {ta : TE} {p p2 q pos : Pos}
def tSortSet (K : PySem.W.Frag) (ta : TE) : TE := fun σ H Q => ta σ H fun x H1 => ∃ l ns, x = V.ref l ∧ SqL K H1 l (ns.map V.int) ∧ ns.length + 1 < 4096 ∧ (sset ns).length < 64 ∧ ∀ p, H1 p = none → Q (.ref p) (upd H1 p (.lst ((sset ns).map V.int)))
theorem sort_setR {pins : List (Addr × Obj)} {σ : L2.St} {H : Hp} {s : Shared} {b : Addr} {ns : List Int} {c : Nat} {Q : VK} (hc : X.calm = true) (I : Inv X pins σ H s) (R : SetR X.w s.heap b (fun j => decide (j ∈ ns)) c) (b2 : (sset ns).length < 64)
    (q1 : ∀ p, H p = none → Q (.ref p) (upd H p (.lst ((sset ns).map V.int)))) : wpAny (model X.prog X.w) X.A (call (.builtin "sorted") [.ref b]) (EP X pins σ Q) X.xe s := by
  have hcnt := setR_count R
  refine sorted_set (n := c) R (I.ok.hd hc) (by omega) fun s' p out cn ns' k g o hp hg hi hs hm hl => ?_
  have e : ns' = sset ns := inc_uniq hs (sset_inc ns) fun j => by rw [hm j, decide_eq_true_eq, sset_mem]
  subst e
  have hlen : ((sset ns).map V.int).length ≤ sizeLine := by rw [List.length_map, sizeLine_eq]; omega
  have hnew : H p = none := I.hok.fresh hp
  have J : Inv X pins σ (upd H p (.lst ((sset ns).map V.int))) { s with heap := s'.heap, gens := s'.gens, drawn := s'.drawn, toks := s'.toks } :=
    I.call (ch := []) (Un.laid k hp hnew) (I.hok.laid k hp ⟨hlen, out.toList, cn, vals_of_ints hi, hg⟩) (by rw [g]; exact I.bare) (fun _ z => nomatch z)
  have e : s' = { s with heap := s'.heap, gens := s'.gens, drawn := s'.drawn, toks := s'.toks } := by
    cases s'; cases s; cases o; rfl
  rw [e]
  exact ⟨.ref p, _, J, rfl, q1 p hnew⟩
theorem pe_sortSet (hc : X.calm = true) (hg : Gl X "sorted") (hm : X.mg "sorted" = none) (hg2 : Gl X "set") (hm2 : X.mg "set" = none) (ha : PE X a ta)
    (na : starEach [a] X.env = (false, eval a X.env) :: starEach [] X.env := by rfl) : PE X (.Call (.Name "sorted" p) [.Call (.Name "set" p2) [a] [] q] [] pos) (tSortSet X.K ta) := by
  refine ⟨fun pins s σ H Q I h => Call_ (ld_blt I hg hm Boot.«sorted» (PyProof.Rows.callWith_builtin1 (args_cons ?_ rfl) rfl rfl))⟩
  refine Call_ (ld_blt I hg2 hm2 PyProof.Rows.boot_set (PyProof.Rows.callWith_type1 (args_cons (thn (ha.run pins s σ H _ I h) fun v s1 ⟨x, H1, I1, r1, q1⟩ => args_nil ?_) na) na rfl))
  obtain ⟨l, ns, rfl, hq, b1, b2, q1⟩ := q1
  cases r1
  obtain ⟨its, rv, pl, hz⟩ := I1.list hq
  refine call_set_ints ns (I1.ok.hd hc) pl.isList (by simpa using rv.ints) b1 fun h' tk c R hk => args_nil ?_
  have I2 : Inv X pins σ H1 { s1 with heap := h', toks := tk } := I1.kept hk
  exact sort_setR (s := { s1 with heap := h', toks := tk }) hc I2 R b2 q1
end
def eSortSet (a : EX) : EX := fun ρ => M.bind (a ρ) fun x => M.lift (match x with
  | .list ds => (intsD ds).bind fun ns => if ns.length + 1 < 4096 ∧ (sset ns).length < 64 then some (.list ((sset ns).map .int)) else none
  | _ => none)
section
variable {C : Ct} {X : Cx}
theorem ev_sortSet {K : PySem.W.Frag} {ta : TE} {fa : EX} (ha : EvE C ta fa) : EvE C (tSortSet K ta) (eSortSet fa) := fun σ ρ F H δ Q r R e p =>
  ha.then R e p.err fun d δ1 v F1 H1 e1 R1 s1 rp => by
    obtain ⟨z, e2, rfl⟩ := M.lift_some e1
    cases rp with
    | @lst a xs ds h1 r1 =>
      obtain ⟨ns, e3, e4⟩ := Option.bind_eq_some_iff.mp e2
      split at e4
      · rename_i hk
        cases (Option.some.inj e4)
        have e5 := ints_rp r1 e3
        subst e5
        exact ⟨a, ns, rfl, SqL.of (R1.hs.sub _ _ h1), hk.1, hk.2, fun q nq => (p.mono s1).list R1.hs nq (rp_ints _)⟩
      · cases e4
    | _ => cases e2
theorem je_sortSet {a : Expr} {fa : EX} {p p2 q pos : Pos} (hc : X.calm = true) (hm : X.mg "sorted" = none) (hm2 : X.mg "set" = none) (ha : JE C X a fa) (hg : Gl X "sorted" := by rfl) (hg2 : Gl X "set" := by rfl)
    (na : starEach [a] X.env = (false, eval a X.env) :: starEach [] X.env := by rfl) : JE C X (.Call (.Name "sorted" p) [.Call (.Name "set" p2) [a] [] q] [] pos) (eSortSet fa) := je (pe_sortSet hc hg hm hg2 hm2 ha na) (ev_sortSet ev_of)
end
end Lay

set_option Elab.async false
set_option linter.all false
set_option maxRecDepth 100000
set_option maxHeartbeats 2000000
/-! Numbers: what the defs of numbers.py answer; more reckoning -/
namespace Lay
open PySem PySem.Spec PyProof.Rows L2

theorem raise_ok {ρ : En} {nm : Str} {e : EX} (h : e ρ = M.pure (.str nm)) (hl : nm.length ≤ 1000) : sRaise e ρ = M.err nm := by
  unfold sRaise; rw [h]; show (if nm.length ≤ 1000 then _ else _) = _; rw [if_pos hl]
def g_int : List D → M D := mkF 1 1 (sRet (eAnd (eCallB (dIsi "int") (lCons (eVar 0) lNil)) (eNot (eCallB (dIsi "bool") (lCons (eVar 0) lNil)))))
def g_need : List D → M D := mkF 4 4 (sIf (bOr (bNot (bOf (eCall g_int (lCons (eVar 0) lNil)))) (bOr (bOf (eBin dLt (eVar 0) (eVar 2))) (bOf (eBin dGt (eVar 0) (eVar 3))))) (sRaise (eVar 1)) sNop)
theorem g_int_ok (i : Int) : g_int [.int i] = M.pure (.bool true) := rfl
theorem g_need_ok {i lo hi : Int} (nm : Str) (h1 : lo ≤ i) (h2 : i ≤ hi) : g_need [.int i, .str nm, .int lo, .int hi] = M.pure .none := by
  refine mkF_nx (ρ := [some (.v (.int i)), some (.v (.str nm)), some (.v (.int lo)), some (.v (.int hi))]) ?_
  refine (if_f (or_f rfl (or_f (of_ok (bin_ok (x := .int i) (y := .int lo) rfl rfl ?_)) (of_ok (bin_ok (x := .int i) (y := .int hi) rfl rfl ?_))))).trans rfl
  · show some (PyData.bool (decide (i < lo))) = _; rw [decide_eq_false (by omega)]
  · show some (PyData.bool (decide (hi < i))) = _; rw [decide_eq_false (by omega)]
theorem g_need_low {i lo hi : Int} {nm : Str} (h1 : i < lo) (hl : nm.length ≤ 1000) : g_need [.int i, .str nm, .int lo, .int hi] = M.err nm := by
  refine mkF_err ?_
  refine (if_t (or_f rfl (or_t (of_ok (bin_ok (x := .int i) (y := .int lo) rfl rfl ?_))))).trans (raise_ok rfl hl)
  show some (PyData.bool (decide (i < lo))) = _; rw [decide_eq_true h1]
theorem g_need_high {i lo hi : Int} {nm : Str} (h0 : lo ≤ i) (h1 : hi < i) (hl : nm.length ≤ 1000) : g_need [.int i, .str nm, .int lo, .int hi] = M.err nm := by
  refine mkF_err ?_
  refine (if_t (or_f rfl (or_f (of_ok (bin_ok (x := .int i) (y := .int lo) rfl rfl ?_)) (of_ok (bin_ok (x := .int i) (y := .int hi) rfl rfl ?_))))).trans (raise_ok rfl hl)
  · show some (PyData.bool (decide (i < lo))) = _; rw [decide_eq_false (by omega)]
  · show some (PyData.bool (decide (hi < i))) = _; rw [decide_eq_true h1]
theorem g_need_none {lo hi : Int} {nm : Str} (hl : nm.length ≤ 1000) : g_need [.none, .str nm, .int lo, .int hi] = M.err nm := by
  refine mkF_err ?_
  exact (if_t (or_t rfl)).trans (raise_ok rfl hl)
theorem g_need_bool {b : Bool} {lo hi : Int} {nm : Str} (hl : nm.length ≤ 1000) : g_need [.bool b, .str nm, .int lo, .int hi] = M.err nm := by
  refine mkF_err ?_
  exact (if_t (or_t rfl)).trans (raise_ok rfl hl)
/-! ### whole numbers -/
theorem mod_nat {a b : Nat} (h : 0 < b) : dMod (.int (a : Nat)) (.int (b : Nat)) = some (.int ((a % b : Nat) : Int)) := by
  show (if decide ((b : Int) ≠ 0) = true then some (PyData.int ((a : Int).fmod b)) else none) = _
  rw [if_pos (decide_eq_true (by omega)), Int.fmod_eq_emod_of_nonneg _ (by omega)]
  rfl
theorem div_nat {a b : Nat} (h : 0 < b) (h2 : b < 1073741824) : dDiv (.int (a : Nat)) (.int (b : Nat)) = some (.int ((a / b : Nat) : Int)) := by
  show (if (decide ((b : Int) ≠ 0) && decide ((b : Int).natAbs < 1073741824)) = true then some (PyData.int ((a : Int).fdiv b)) else none) = _
  rw [if_pos (by rw [decide_eq_true (by omega), decide_eq_true (by omega)]; rfl), Int.fdiv_eq_ediv_of_nonneg _ (by omega)]
  rfl
theorem small_nat {a : Nat} (h : a < 18446744073709551616) : smallI (a : Int) = true := by
  unfold smallI
  rw [decide_eq_true (by omega), decide_eq_true (by omega)]; rfl
theorem mul_nat {a b : Nat} (h : b < 18446744073709551616) : dMulB (.int (a : Nat)) (.int (b : Nat)) = some (.int ((a * b : Nat) : Int)) := by
  show (if (smallI (a : Int) || smallI (b : Int)) = true then some (PyData.int ((a : Int) * b)) else none) = _
  rw [if_pos (by rw [small_nat h, Bool.or_true])]
  push_cast; rfl
theorem mul_int {a b : Int} (h : smallI a = true ∨ smallI b = true) : dMulB (.int a) (.int b) = some (.int (a * b)) := by
  show (if (smallI a || smallI b) = true then some (PyData.int (a * b)) else none) = _
  rw [if_pos (by rcases h with h | h <;> rw [h] <;> simp)]
theorem add_nat {a b : Nat} : dAdd (.int (a : Nat)) (.int (b : Nat)) = some (.int ((a + b : Nat) : Int)) := by
  show some (PyData.int ((a : Int) + b)) = _
  push_cast; rfl
theorem int_nat {a b : Nat} : (PyData.int (a : Int) = PyData.int (b : Int)) ↔ a = b := ⟨fun h => by have := int_inj _ _ h; omega, fun h => by rw [h]⟩
theorem eq_int {a b : Int} : dEq (.int a) (.int b) = some (.bool (decide (a = b))) := eqD_true (n := 0) (m := 0) rfl rfl (by omega) (by omega) _ ⟨int_inj _ _, fun h => by rw [h]⟩
theorem eq_nat {a b : Nat} : dEq (.int (a : Int)) (.int (b : Int)) = some (.bool (decide (a = b))) := eqD_true (n := 0) (m := 0) rfl rfl (by omega) (by omega) _ int_nat
theorem ne_nat {a b : Nat} : dNe (.int (a : Int)) (.int (b : Int)) = some (.bool (!decide (a = b))) := neD_true (n := 0) (m := 0) rfl rfl (by omega) (by omega) _ int_nat
theorem ne_same {d : D} {n : Nat} (h : plain n d = true) (hn : n ≤ 64) : dNe d d = some (.bool false) := by
  rw [neD_true h h hn hn True ⟨fun _ => trivial, fun _ => rfl⟩]; rfl
/-! ### common -/
def c_com : EB := (bOf (eBin dGt (eVar 1) (eC (.int 0))))
def y_com : ST := (sPar 0 1 (eVar 1) (eBin dMod (eVar 0) (eVar 1)))
def g_common : List D → M D := mkF 2 2 (sSeq (sSet 0 (eCallB dAbs (lCons (eVar 0) lNil))) (sSeq (sSet 1 (eCallB dAbs (lCons (eVar 1) lNil))) (sSeq (sWh 4096 c_com y_com) (sRet (eVar 0)))))
abbrev eN (a b : Nat) : En := [some (.v (.int (a : Nat))), some (.v (.int (b : Nat)))]
theorem com_f (a : Nat) : c_com (eN a 0) = M.pure false := rfl
theorem com_t {a b : Nat} (h : 0 < b) : c_com (eN a b) = M.pure true := by
  refine of_ok (bin_ok (x := .int (b : Nat)) (y := .int 0) rfl rfl ?_)
  show some (PyData.bool (decide ((0 : Int) < (b : Nat)))) = _
  rw [decide_eq_true (by omega)]
theorem com_y {a b : Nat} (h : 0 < b) : y_com (eN a b) = M.pure (.nx (eN b (a % b))) := by
  have e : eBin dMod (eVar 0) (eVar 1) (eN a b) = M.pure (.int ((a % b : Nat) : Int)) := bin_ok (x := .int (a : Nat)) (y := .int (b : Nat)) rfl rfl (mod_nat h)
  unfold y_com sPar
  rw [e]
  rfl
theorem com_wh : ∀ (k a b n : Nat), b < 2 ^ k → 2 * k < n → whL c_com y_com n (eN a b) = M.pure (.nx (eN (Nat.gcd a b) 0))
  | 0, a, b, n, h, hn => by
    obtain ⟨n, rfl⟩ : ∃ m, n = m + 1 := ⟨n - 1, by omega⟩
    have : b = 0 := by simpa using h
    subst this
    rw [wh_f (com_f a), Nat.gcd_zero_right]
  | k + 1, a, b, n, h, hn => by
    obtain ⟨n, rfl⟩ : ∃ m, n = m + 2 := ⟨n - 2, by omega⟩
    rcases Nat.eq_zero_or_pos b with z | hb
    · subst z
      rw [wh_f (com_f a), Nat.gcd_zero_right]
    · have lt := Nat.mod_lt a hb
      rw [wh_t (com_t hb) (com_y hb), show Nat.gcd a b = Nat.gcd b (a % b) by rw [Nat.gcd_comm a b, Nat.gcd_rec, Nat.gcd_comm]]
      generalize a % b = r at lt ⊢
      rcases Nat.eq_zero_or_pos r with z | hr
      · subst z
        rw [wh_f (com_f b), Nat.gcd_zero_right]
      · rw [wh_t (com_t hr) (com_y hr), show Nat.gcd b r = Nat.gcd r (b % r) by rw [Nat.gcd_comm b r, Nat.gcd_rec, Nat.gcd_comm]]
        refine com_wh k r (b % r) n ?_ (by omega)
        have l2 := Nat.mod_lt b hr
        rw [Nat.pow_succ] at h
        by_cases h2 : r < 2 ^ k
        · omega
        · have : b % r = (b - r) % r := by rw [Nat.mod_eq_sub_mod (by omega)]
          rw [this]
          have := Nat.mod_le (b - r) r
          omega
theorem g_common_int {i j : Int} (h : j.natAbs < 2 ^ 2000) : g_common [.int i, .int j] = M.pure (.int ((Int.gcd i j : Nat) : Int)) := by
  have ab : ∀ i : Int, (if i < 0 then -i else i) = (i.natAbs : Int) := fun i => by split <;> omega
  refine mkF_rt ?_
  refine (seq_nx (ρ' := [some (.v (.int (i.natAbs : Int))), some (.v (.int j))]) ?_).trans ?_
  · refine (set_ok (d := .int (i.natAbs : Int)) (callB_ok (ds := [.int i]) rfl ?_) (by show 0 < 2; omega)).trans rfl
    show some (PyData.int (if i < 0 then -i else i)) = _
    rw [ab]
  refine (seq_nx (ρ' := eN i.natAbs j.natAbs) ?_).trans ?_
  · refine (set_ok (d := .int (j.natAbs : Int)) (callB_ok (ds := [.int j]) rfl ?_) (by show 1 < 2; omega)).trans rfl
    show some (PyData.int (if j < 0 then -j else j)) = _
    rw [ab]
  refine (seq_nx (com_wh 2000 _ _ 4096 h (by omega))).trans ?_
  rfl
theorem g_common_nat {a b : Nat} (h : b < 2 ^ 2000) : g_common [.int (a : Nat), .int (b : Nat)] = M.pure (.int ((Nat.gcd a b : Nat) : Int)) := by
  have := g_common_int (i := (a : Int)) (j := (b : Int)) (by simpa using h)
  rw [this]; rfl
theorem small2000 {b : Nat} (h : b < 18446744073709551616) : b < 2 ^ 2000 := Nat.lt_trans h (by decide +kernel)
/-! ### comprehensions with dice, stores into an own list -/
section
variable {tg : Tg} {conds : EB} {elt : EX} {vs : List Nat} {ρ : En} {γ : Type}
theorem Good.comp (enc : γ → D) (Inv : List γ → List D → Dice → Prop) : ∀ (xs : List γ) (acc : List D) (δ : Dice) (P : List D → Dice → Prop),
    (∀ x r acc δ, Inv (x :: r) acc δ → ∃ ρ1, bindT tg (clr ρ vs) (enc x) = some ρ1 ∧ Good (elt ρ1) δ fun y δ' => Inv r (acc ++ [y]) δ') → (∀ ys δ, Inv [] (acc ++ ys) δ → P ys δ) → Inv xs acc δ →
    Good (compL tg bYes elt vs (xs.map enc) ρ) δ P
  | [], acc, δ, P, h, q, hi => ⟨[], δ, rfl, q [] δ (by rw [List.append_nil]; exact hi)⟩
  | x :: xs, acc, δ, P, h, q, hi => by
    obtain ⟨ρ1, h1, y, δ1, e1, h2⟩ := h x xs acc δ hi
    obtain ⟨ys, δ2, e2, h3⟩ := Good.comp enc Inv xs (acc ++ [y]) δ1 (fun ys δ' => P (y :: ys) δ') h (fun ys δ' hi' => q (y :: ys) δ' (by rw [List.append_assoc] at hi'; exact hi')) h2
    refine ⟨y :: ys, δ2, ?_, h3⟩
    rw [List.map_cons]
    show M.bind (M.lift (bindT tg (clr ρ vs) (enc x))) _ δ = _
    rw [h1]
    show M.bind (M.noErr (elt ρ1)) _ δ = _
    have e3 : M.noErr (elt ρ1) δ = some (.ok y, δ1) := by unfold M.noErr; rw [e1]
    unfold M.bind
    rw [e3]
    show (M.bind (compL tg bYes elt vs (xs.map enc) ρ) fun ys => M.pure (y :: ys)) δ1 = _
    unfold M.bind
    rw [e2]; rfl
theorem Good.ecomp {it : EL} {δ : Dice} {ds : List D} {P : D → Dice → Prop} (hi : it ρ = M.pure ds) (h : Good (compL tg bYes elt vs ds ρ) δ fun ys δ' => ys.length ≤ 16777216 ∧ P (.list ys) δ') : Good (eComp tg it bYes elt vs ρ) δ P := by
  unfold eComp
  rw [hi]
  refine Good.bind (Good.pure (Good.bind (h.imp fun ys δ' ⟨hl, q⟩ => ?_)))
  show Good (if ys.length ≤ sizeLine then _ else _) δ' P
  rw [if_pos (by rw [sizeLine_eq]; exact hl)]
  exact .pure q
end
section
variable {ρ : En} {δ : Dice}
theorem Good.callB {op : List D → Option D} {l : EL} {P : D → Dice → Prop} (h : Good (l ρ) δ fun xs δ' => ∃ z, op xs = some z ∧ P z δ') : Good (eCallB op l ρ) δ P := by
  unfold eCallB
  refine Good.bind (h.imp fun xs δ' ⟨z, e, q⟩ => ?_)
  rw [e]
  exact .pure q
theorem Good.bof {e : EX} {P : Bool → Dice → Prop} (h : Good (e ρ) δ fun d δ' => ∃ b, d = .bool b ∧ P b δ') : Good (bOf e ρ) δ P := by
  unfold bOf
  refine Good.bind (h.imp fun d δ' ⟨b, e, q⟩ => ?_)
  subst e
  exact .pure q
theorem Good.eif {c : EB} {a b : EX} {P : D → Dice → Prop} (h : Good (c ρ) δ fun x δ' => Good ((if x = true then a else b) ρ) δ' P) : Good (eIf c a b ρ) δ P := by
  unfold eIf
  refine Good.bind (h.imp fun x δ' q => ?_)
  cases x
  · exact q
  · exact q
theorem Good.setIx {i j : Nat} {k a : EX} {ds : List D} {Q : Fl → Dice → Prop} (hg : getO ρ i = some ds) (h : Good (a ρ) δ fun x δ1 => k ρ = M.pure (.int (j : Nat)) ∧ j < ds.length ∧ Q (.nx (setO ρ i (ds.set j x))) δ1) : Good (sSetIx i k a ρ) δ Q := by
  unfold sSetIx
  rw [hg]
  refine Good.bind (h.imp fun x δ1 ⟨e, hj, q⟩ => ?_)
  rw [e]
  refine Good.bind (Good.pure ?_)
  have : L2.ixN ds.length ((j : Nat) : Int) = some j := by
    unfold L2.ixN
    rw [if_pos (by omega), if_pos (by omega)]
    simp
  show Good (match L2.ixN ds.length ((j : Nat) : Int) with | some j => _ | none => _) δ1 Q
  rw [this]
  exact .pure q
theorem Good.ownL {i : Nat} {e : EX} {Q : Fl → Dice → Prop} (hL : noL ρ = true) (h : Good (e ρ) δ fun d δ' => ∃ ds, (d = .tuple ds ∨ d = .list ds) ∧ Q (.nx (setO ρ i ds)) δ') : Good (sOwnL i e ρ) δ Q := by
  unfold sOwnL
  refine Good.bind (h.imp fun d δ' ⟨ds, e, q⟩ => ?_)
  rcases e with rfl | rfl
  · dsimp only; rw [if_pos hL]; exact .pure q
  · dsimp only; rw [if_pos hL]; exact .pure q
theorem Good.parO {i j : Nat} {b : EX} {Q : Fl → Dice → Prop} {d : D} (hb : b ρ = M.pure d) (hi : i < ρ.length) (hj : j < ρ.length) (h : Q (.nx (setV (setO ρ i []) j d)) δ) (hL : noL ρ = true := by rfl) : Good (sParO i j lNil b ρ) δ Q := by
  unfold sParO
  refine Good.bind (Good.pure ?_)
  show Good (if ([] : List D).length ≤ sizeLine ∧ i < ρ.length ∧ j < ρ.length ∧ noL ρ = true then _ else _) δ Q
  rw [if_pos ⟨by rw [sizeLine_eq]; decide, hi, hj, hL⟩, hb]
  exact .pure h
theorem ownIx_ok {i j : Nat} {e : EX} {ds : List D} {d : D} (hg : getO ρ i = some ds) (h : e ρ = M.pure (.int (j : Nat))) (hd : ds[j]? = some d) : eOwnIx i e ρ = M.pure d := by
  unfold eOwnIx
  rw [hg]
  show M.bind (e ρ) _ = _
  rw [h]
  have := ixD_list hd
  show M.lift (L2.atI ds (j : Nat)) = _
  rw [show L2.atI ds (j : Nat) = some d from this]
  rfl
theorem ownLast_ok {i : Nat} {e : EX} {ds : List D} {d : D} (hg : getO ρ i = some (ds ++ [d])) (h : e ρ = M.pure (.int (-1))) : eOwnIx i e ρ = M.pure d := by
  unfold eOwnIx
  rw [hg]
  show M.bind (e ρ) _ = _
  rw [h]
  show M.lift (L2.atI (ds ++ [d]) (-1)) = _
  rw [show L2.atI (ds ++ [d]) (-1) = some d from ixD_last]
  rfl
theorem ownLen_ok {i : Nat} {ds : List D} (hg : getO ρ i = some ds) : eOwnLen i ρ = M.pure (.int ds.length) := by
  unfold eOwnLen; rw [hg]; rfl
end
/-- turns that may stop -/
theorem for_brk {tg : Tg} {vs : List Nat} {b : ST} {γ S : Type} (enc : γ → D) (R : S → En) (f : S → γ → S) (stop : S → Bool) (Inv : List γ → S → Prop) : ∀ (xs : List γ) (s : S) (ρ : En),
    (∀ x r s, Inv (x :: r) s → ∃ ρ1, bindT tg (R s) (enc x) = some ρ1 ∧ ((stop s = true ∧ ∃ ρ2, b ρ1 = M.pure (.bk ρ2) ∧ clr ρ2 vs = R s) ∨ (stop s = false ∧ ∃ ρ2, b ρ1 = M.pure (.nx ρ2) ∧ clr ρ2 vs = R (f s x) ∧ Inv r (f s x)))) → Inv xs s → clr ρ vs = R s →
    ∃ n s', forL tg vs b (xs.map enc) ρ = M.pure (.nx (R s')) ∧ n ≤ xs.length ∧ s' = (xs.take n).foldl f s ∧ (∀ m, m < n → stop ((xs.take m).foldl f s) = false) ∧ (n < xs.length → stop s' = true)
  | [], s, ρ, _, _, hρ => ⟨0, s, by show M.pure (Fl.nx (clr ρ vs)) = _; rw [hρ], Nat.le_refl _, rfl, fun m hm => absurd hm (by omega), fun h => absurd h (by simp)⟩
  | x :: xs, s, ρ, h, hi, hρ => by
    obtain ⟨ρ1, h1, h2⟩ := h x xs s hi
    rw [List.map_cons]
    rcases h2 with ⟨st, ρ2, h3, h4⟩ | ⟨st, ρ2, h3, h4, h5⟩
    · refine ⟨0, s, ?_, Nat.zero_le _, rfl, fun m hm => absurd hm (by omega), fun _ => st⟩
      show M.bind (M.lift (bindT tg (clr ρ vs) (enc x))) _ = _
      rw [hρ, h1]
      show M.bind (b ρ1) _ = _
      rw [h3, ← h4]; rfl
    · obtain ⟨n, s', e, hn, hs, hf, ht⟩ := for_brk enc R f stop Inv xs (f s x) ρ2 h h5 h4
      refine ⟨n + 1, s', ?_, by simpa using hn, by rw [List.take_succ_cons, List.foldl_cons]; exact hs, fun m hm => ?_, fun hl => ht (by simpa using hl)⟩
      · rw [for_nx (by rw [hρ]; exact h1) h3]; exact e
      · cases m with
        | zero => exact st
        | succ m => rw [List.take_succ_cons, List.foldl_cons]; exact hf m (by omega)
end Lay

set_option Elab.async false
set_option linter.all false
set_option maxRecDepth 100000
set_option maxHeartbeats 4000000
/-! Rules for k00: a def that calls itself, the sum of a tuple, tuples of ints sorted -/
namespace Lay
open PySem PySem.Spec PyProof.Rows L2

theorem je_stuck {C : Ct} {X : Cx} {e : Expr} : JE C X e (fun _ => M.stuck) := ⟨fun pins s σ H Q I ⟨ρ, F, δ, r, R, e, p⟩ => by cases e⟩
/-! ### the sum of a tuple of ints -/
def rSumT (K : PySem.W.Frag) : List V → Hp → VK → Prop := fun vs H Q => ∃ (a : Addr) (ns : List Int), vs = [V.ref a] ∧ SqT K H a (ns.map V.int) ∧ Q (.int ns.sum) H
theorem pre_map (f : Nat → Int) : ∀ n, preSum f n = ((List.range n).map f).sum
  | 0 => rfl
  | n + 1 => by
    show preSum f n + f n = _
    rw [pre_map f n, List.range_succ, List.map_append, List.sum_append]
    simp
theorem pre_sum (ns : List Int) : preSum (fun i => ns.getD i 0) ns.length = ns.sum := by
  rw [pre_map]
  congr 1
  refine List.ext_getElem (by rw [List.length_map, List.length_range]) fun i h1 h2 => ?_
  rw [List.getElem_map, List.getElem_range, List.getD_eq_getElem?_getD, List.getElem?_eq_getElem h2]; rfl
theorem cr_sumT {X : Cx} (hc : X.calm = true) : CallR X (.builtin "sum") (rSumT X.K) := by
  intro pins s σ H vs us Q I r h
  obtain ⟨a, ns, rfl, hs, q⟩ := h
  obtain ⟨its, rv, hl, _⟩ := I.tuple hs
  rw [Vals.ref1 r]
  have hlt : a < s.heap.objs.size := by obtain ⟨o, ho, _⟩ := hl; exact Heap.lt_size ho
  have hi := rv.ints
  have hsz : its.toArray.size = ns.length := by rw [List.size_toArray]; exact hi.length
  have hval : ∀ (i : Nat) (v : Value), its.toArray[i]? = some v → ∃ t, v = Value.int (ns.getD i 0) t := fun i v hv => PyProof.Rows.IntsAre.int_at hi i v (by simpa using hv)
  refine call_sum_walkG (wpAny_pyIter_tuple hl ?_)
  refine ⟨_, _, _, _, _, _, fun i => ns.getD i 0, rfl, Walks.tuple (A := X.A.in1) (I.ok.hd hc) s.heap.objs.size a (Nat.ne_of_lt hlt) its.toArray, ⟨⟨_, Heap.get?_push_size _ rfl, rfl, rfl⟩, hl.push _⟩, fun b hb => ?_, hval, fun h' tk t' hk => ?_⟩
  · rw [Heap.size_push]
    rcases List.mem_cons.mp hb with e | hb
    · rw [e]; exact Nat.lt_succ_self _
    · rw [List.mem_singleton.mp hb]; exact Nat.lt_succ_of_lt hlt
  · refine ⟨.int ns.sum, H, I.kept (t' := tk) fun b u e => hk b u (fun hm => ?_) (Heap.get?_push_of_some _ e), ⟨t', ?_⟩, q⟩
    · have e2 := Heap.lt_size e
      rw [List.mem_singleton.mp hm] at e2
      exact absurd e2 (Nat.lt_irrefl _)
    · rw [hsz, pre_sum]
def dSumT : List D → Option D
  | [.tuple ds] => (intsD ds).map fun ns => .int ns.sum
  | _ => none
section
variable {C : Ct}
theorem raw_sumT {K : PySem.W.Frag} : RawL C (rSumT K) dSumT := fun F H δ vs ds z Q hs r o p => by
  unfold dSumT at o
  split at o
  · rename_i es
    obtain ⟨ns, e1, e2⟩ := Option.map_eq_some_iff.mp o
    subst e2
    obtain ⟨a, xs, rfl, h1, h2⟩ := one_tup r
    have e3 := ints_rp h2 e1
    subst e3
    exact ⟨a, ns, rfl, SqT.of (hs.sub _ _ h1), p.val hs (.int _)⟩
  · cases o
end
/-! ### tuples of ints, sorted -/
def rSortAny (K : PySem.W.Frag) : List V → Hp → VK → Prop := fun vs H Q => ∃ (d : Nat) (B : Int), 1 ≤ d ∧ rSortU K d B vs H Q
theorem cr_sortAny {X : Cx} : CallR X (.builtin "sorted") (rSortAny X.K) := fun pins s σ H vs us Q I r ⟨d, B, hd, h⟩ => cr_sortT hd pins s σ H vs us Q I r h
def encN (ns : List Int) : D := .tuple (ns.map .int)
def tupN : D → Option (List Int)
  | .tuple ds => intsD ds
  | _ => none
def tupsN : List D → Option (List (List Int))
  | [] => some []
  | d :: ds => match tupN d, tupsN ds with
    | some p, some ps => some (p :: ps)
    | _, _ => none
theorem ints_back : ∀ {ds : List D} {ns : List Int}, intsD ds = some ns → ds = ns.map .int
  | [], ns, h => by cases h; rfl
  | d :: ds, ns, h => by
    cases d with
    | int i =>
      obtain ⟨ns', e1, e2⟩ := Option.map_eq_some_iff.mp (show (intsD ds).map (i :: ·) = some ns from h)
      subst e2
      rw [List.map_cons, ← ints_back e1]
    | _ => cases h
theorem tupsN_back : ∀ {ds : List D} {ps : List (List Int)}, tupsN ds = some ps → ds = ps.map encN
  | [], ps, h => by cases h; rfl
  | d :: ds, ps, h => by
    unfold tupsN at h
    split at h
    · rename_i p ps' e1 e2
      cases h
      rw [List.map_cons, ← tupsN_back e2]
      unfold tupN at e1
      split at e1
      · rename_i es
        rw [ints_back e1]; rfl
      · cases e1
    · cases h
theorem tupsN_map : ∀ ps : List (List Int), tupsN (ps.map encN) = some ps
  | [] => rfl
  | p :: ps => by
    rw [List.map_cons]
    unfold tupsN
    rw [tupsN_map ps, show tupN (encN p) = some p from intsD_map p]
def leC (a b : List Int) : Bool := decide (TS.code 64 a ≤ TS.code 64 b)
def insC (x : List Int) : List (List Int) → List (List Int)
  | [] => [x]
  | y :: ys => if leC x y = true then x :: y :: ys else y :: insC x ys
def sortC : List (List Int) → List (List Int)
  | [] => []
  | x :: xs => insC x (sortC xs)
theorem insC_perm (x : List Int) : ∀ l, (insC x l).Perm (x :: l)
  | [] => .refl _
  | y :: ys => by
    unfold insC
    split
    · exact .refl _
    · exact ((insC_perm x ys).cons y).trans (.swap x y ys)
theorem sortC_perm : ∀ l, (sortC l).Perm l
  | [] => .refl _
  | x :: xs => (insC_perm x _).trans ((sortC_perm xs).cons x)
abbrev SrtC (l : List (List Int)) : Prop := l.Pairwise fun a b => TS.code 64 a ≤ TS.code 64 b
theorem insC_sorted (x : List Int) : ∀ l, SrtC l → SrtC (insC x l)
  | [], _ => List.pairwise_singleton _ _
  | y :: ys, h => by
    unfold insC
    have h' := List.pairwise_cons.mp h
    split
    · rename_i hl
      have hl := of_decide_eq_true hl
      refine List.pairwise_cons.mpr ⟨fun z hz => ?_, h⟩
      rcases List.mem_cons.mp hz with rfl | hz
      · exact hl
      · have := h'.1 z hz; omega
    · rename_i hl
      have hl : ¬ (TS.code 64 x ≤ TS.code 64 y) := fun z => hl (decide_eq_true z)
      refine List.pairwise_cons.mpr ⟨fun z hz => ?_, insC_sorted x ys h'.2⟩
      rcases List.mem_cons.mp ((insC_perm x ys).mem_iff.mp hz) with rfl | hz
      · omega
      · exact h'.1 z hz
theorem sortC_sorted : ∀ l, SrtC (sortC l)
  | [] => .nil
  | x :: xs => insC_sorted x _ (sortC_sorted xs)
theorem code_one {B : Int} : ∀ {a b : List Int}, a.length = b.length → TS.Bd B a → TS.Bd B b → TS.code B a = TS.code B b → a = b
  | [], [], _, _, _, _ => rfl
  | [], _ :: _, h, _, _, _ => by cases h
  | _ :: _, [], h, _, _, _ => by cases h
  | x :: a, y :: b, h, ha, hb, e => by
    have hl : a.length = b.length := by simpa using h
    rcases Int.lt_trichotomy x y with lt | q | lt
    · have := TS.code_lt hl ha.tail hb.tail lt; omega
    · subst q
      have n1 : ¬ TS.code B a < TS.code B b := fun z => by have := (TS.code_same (B := B) (d := x) hl).mpr z; omega
      have n2 : ¬ TS.code B b < TS.code B a := fun z => by have := (TS.code_same (B := B) (d := x) hl.symm).mpr z; omega
      rw [code_one hl ha.tail hb.tail (show TS.code B a = TS.code B b by omega)]
    · have := TS.code_lt hl.symm hb.tail ha.tail lt; omega
theorem map_in {α β : Type} {f : α → β} : ∀ {l m : List α}, (∀ a ∈ l, ∀ b ∈ m, f a = f b → a = b) → l.map f = m.map f → l = m
  | [], [], _, _ => rfl
  | [], _ :: _, _, e => by cases e
  | _ :: _, [], _, e => by cases e
  | x :: l, y :: m, h, e => by
    rw [List.map_cons, List.map_cons] at e
    injection e with e1 e2
    rw [h x List.mem_cons_self y List.mem_cons_self e1, map_in (fun a ha b hb => h a (List.mem_cons_of_mem _ ha) b (List.mem_cons_of_mem _ hb)) e2]
/-- all of one length, small -/
def OkC (l : List (List Int)) : Prop := ∃ d : Nat, ∀ a ∈ l, a.length = d ∧ TS.Bd 64 a
theorem sortC_uniq {l m : List (List Int)} (ok : OkC m) (p : l.Perm m) (s : SrtC l) : l = sortC m := by
  obtain ⟨d, hd⟩ := ok
  have p2 := p.trans (sortC_perm m).symm
  have e := sorted_uniq (R := fun a b : Int => a ≤ b) (fun a b h h' => Int.le_antisymm h h') (List.pairwise_map.mpr s) (List.pairwise_map.mpr (sortC_sorted m)) (p2.map (TS.code 64))
  refine map_in (fun a ha b hb he => ?_) e
  have h1 := hd a (p.mem_iff.mp ha)
  have h2 := hd b ((sortC_perm m).mem_iff.mp hb)
  exact code_one (by rw [h1.1, h2.1]) h1.2 h2.2 he
theorem sortC_same {l : List (List Int)} (ok : OkC l) (s : SrtC l) : sortC l = l := (sortC_uniq ok (.refl _) s).symm
def okC (l : List (List Int)) : Bool := decide (l.length < 64) && l.all fun a => decide (1 ≤ a.length) && decide (a.length = (l.headD []).length) && a.all fun m => decide (0 ≤ m) && decide (m < 64)
def dSortT : List D → Option D
  | [.list ds] => (tupsN ds).bind fun tl => if okC tl = true then some (.list ((sortC tl).map encN)) else none
  | _ => none
section
variable {C : Ct}
theorem rpA_perm {F : Hp} {xs ys : List V} (h : ys.Perm xs) : ∀ {l : List (List Int)}, RpA F xs (l.map encN) → ∃ l' : List (List Int), l'.Perm l ∧ RpA F ys (l'.map encN) := by
  induction h with
  | nil => intro l r; exact ⟨l, .refl _, r⟩
  | cons x h ih =>
    intro l r
    cases l with
    | nil => cases r
    | cons a l =>
      cases r with
      | cons r1 r2 =>
        obtain ⟨l', p, r'⟩ := ih r2
        exact ⟨a :: l', p.cons a, .cons r1 r'⟩
  | swap x y xs =>
    intro l r
    cases l with
    | nil => cases r
    | cons a l =>
      cases r with
      | cons r1 r2 =>
        cases l with
        | nil => cases r2
        | cons b l =>
          cases r2 with
          | cons r3 r4 => exact ⟨b :: a :: l, .swap a b l, .cons r3 (.cons r1 r4)⟩
  | trans _ _ ih1 ih2 =>
    intro l r
    obtain ⟨l1, p1, r1⟩ := ih2 r
    obtain ⟨l2, p2, r2⟩ := ih1 r1
    exact ⟨l2, p2.trans p1, r2⟩
theorem rp_tupI {K : PySem.W.Frag} {F H : Hp} (e : Ext F H) {x : V} {ns : List Int} (r : Rp F x (encN ns)) : TupI K H x ns := by
  cases r with
  | @tup a xs ds h1 r1 =>
    have := ints_rp r1 (intsD_map ns)
    subst this
    exact ⟨a, rfl, SqT.of (e _ _ h1)⟩
theorem rpA_tupI {K : PySem.W.Frag} {F H : Hp} (e : Ext F H) : ∀ {xs : List V} {l : List (List Int)}, RpA F xs (l.map encN) → ∀ x ∈ xs, ∃ ns ∈ l, TupI K H x ns
  | [], _, _, x, h => by cases h
  | y :: xs, [], r, x, h => by cases r
  | y :: xs, a :: l, r, x, h => by
    cases r with
    | cons r1 r2 =>
      rcases List.mem_cons.mp h with rfl | h
      · exact ⟨a, List.mem_cons_self, rp_tupI e r1⟩
      · obtain ⟨ns, h1, h2⟩ := rpA_tupI e r2 x h
        exact ⟨ns, List.mem_cons_of_mem _ h1, h2⟩
theorem rpA_mem {K : PySem.W.Frag} {F H : Hp} (e : Ext F H) : ∀ {xs : List V} {l : List (List Int)}, RpA F xs (l.map encN) → ∀ ns ∈ l, ∃ x ∈ xs, TupI K H x ns
  | _, [], _, ns, h => by cases h
  | [], a :: l, r, ns, h => by cases r
  | y :: xs, a :: l, r, ns, h => by
    cases r with
    | cons r1 r2 =>
      rcases List.mem_cons.mp h with rfl | h
      · exact ⟨y, List.mem_cons_self, rp_tupI e r1⟩
      · obtain ⟨x, h1, h2⟩ := rpA_mem e r2 ns h
        exact ⟨x, List.mem_cons_of_mem _ h1, h2⟩
theorem rpA_srt {K : PySem.W.Frag} {F H : Hp} (e : Ext F H) : ∀ {ys : List V} {l : List (List Int)}, RpA F ys (l.map encN) → ys.Pairwise (fun x y => ∀ n m, TupI K H x n → TupI K H y m → TS.code 64 n ≤ TS.code 64 m) → SrtC l
  | _, [], _, _ => .nil
  | [], a :: l, r, _ => by cases r
  | y :: ys, a :: l, r, s => by
    cases r with
    | cons r1 r2 =>
      have s' := List.pairwise_cons.mp s
      refine List.pairwise_cons.mpr ⟨fun b hb => ?_, rpA_srt e r2 s'.2⟩
      obtain ⟨x, hx, t⟩ := rpA_mem (K := K) e r2 b hb
      exact s'.1 x hx a b (rp_tupI e r1) t
theorem raw_sortT {K : PySem.W.Frag} : RawL C (rSortAny K) dSortT := fun F H δ vs ds z Q hs r o p => by
  unfold dSortT at o
  split at o
  · rename_i es
    obtain ⟨tl, e1, e2⟩ := Option.bind_eq_some_iff.mp o
    split at e2
    · rename_i ok
      cases (Option.some.inj e2)
      have e3 := tupsN_back e1
      subst e3
      obtain ⟨a, xs, rfl, h1, h2⟩ := one_list r
      have hlen : xs.length = tl.length := by rw [h2.length, List.length_map]
      unfold okC at ok
      rw [Bool.and_eq_true, decide_eq_true_eq, List.all_eq_true] at ok
      obtain ⟨o1, o2⟩ := ok
      have o2 : ∀ b ∈ tl, 1 ≤ b.length ∧ b.length = (tl.headD []).length ∧ TS.Bd 64 b := fun b hb => by
        have := o2 b hb
        rw [Bool.and_eq_true, Bool.and_eq_true, decide_eq_true_eq, decide_eq_true_eq, List.all_eq_true] at this
        refine ⟨this.1.1, this.1.2, fun m hm => ?_⟩
        have := this.2 m hm
        rw [Bool.and_eq_true, decide_eq_true_eq, decide_eq_true_eq] at this
        exact this
      refine ⟨if tl = [] then 1 else (tl.headD []).length, 64, ?_, a, xs, rfl, SqL.of (hs.sub _ _ h1), by omega, fun x hx => ?_, fun ys q pe so nq => ?_⟩
      · cases tl with
        | nil => simp
        | cons b tl => rw [if_neg (by simp)]; exact (o2 b List.mem_cons_self).1
      · obtain ⟨ns, hn, t⟩ := rpA_tupI (K := K) hs.sub h2 x hx
        have k := o2 ns hn
        refine ⟨ns, t, ?_, k.2.2⟩
        rw [if_neg (by intro z; rw [z] at hn; cases hn)]
        exact k.2.1
      · obtain ⟨l', p', r'⟩ := rpA_perm pe h2
        have s' := rpA_srt hs.sub r' so
        have e4 := sortC_uniq ⟨(tl.headD []).length, fun b hb => (o2 b hb).2⟩ p' s'
        rw [e4] at r'
        exact p.list hs nq r'
    · cases e2
  · cases o
end
end Lay

set_option Elab.async false
set_option linter.all false
set_option maxRecDepth 100000
set_option maxHeartbeats 2000000
/-! Numbers: ratio, the law's own gcd and fractions -/
namespace Lay
open PySem PySem.Spec PyProof.Rows L2

def nfD (a b : Int) : Int × Int := (a / (Int.gcd a b : Nat), b / (Int.gcd a b : Nat))
theorem div_int {a : Int} {g : Nat} (h : 0 < g) (h2 : g < 1073741824) : dDiv (.int a) (.int (g : Nat)) = some (.int (a / (g : Nat))) := by
  show (if (decide ((g : Int) ≠ 0) && decide ((g : Int).natAbs < 1073741824)) = true then some (PyData.int (a.fdiv g)) else none) = _
  rw [if_pos (by rw [decide_eq_true (by omega), decide_eq_true (by omega)]; rfl), Int.fdiv_eq_ediv_of_nonneg _ (by omega)]
theorem gcd_bd {a b : Int} (hb : 0 < b) : 0 < Int.gcd a b ∧ ((Int.gcd a b : Nat) : Int) ≤ b := ⟨Int.gcd_pos_of_ne_zero_right _ (by omega), Int.le_of_dvd hb (Int.gcd_dvd_right a b)⟩
def g_ratio : List D → M D := mkF 2 3 (sSeq (sSet 2 (eCall g_common (lCons (eVar 0) (lCons (eVar 1) lNil)))) (sRet (eTup (lCons (eBin dDiv (eVar 0) (eVar 2)) (lCons (eBin dDiv (eVar 1) (eVar 2)) lNil)))))
theorem g_ratio_eq {a b : Int} (hb : 0 < b) (h2 : b < 1073741824) : g_ratio [.int a, .int b] = M.pure (ofP (nfD a b)) := by
  have g := gcd_bd (a := a) hb
  refine mkF_rt ?_
  refine (seq_nx (ρ' := [some (.v (.int a)), some (.v (.int b)), some (.v (.int (Int.gcd a b : Nat)))]) ((set_ok ((call_ok (ds := [.int a, .int b]) rfl).trans (g_common_int (small2000 (by omega)))) (by show 2 < 3; omega)).trans rfl)).trans ?_
  exact ret_ok (tup_ok (xs := [.int (a / (Int.gcd a b : Nat)), .int (b / (Int.gcd a b : Nat))]) (cons_ok (bin_ok (x := .int a) (y := .int (Int.gcd a b : Nat)) rfl rfl (div_int g.1 (by omega))) (one_ok (bin_ok (x := .int b) (y := .int (Int.gcd a b : Nat)) rfl rfl (div_int g.1 (by omega))))) (by show 2 ≤ 16777216; omega))
/-! ### the law's own -/
def y_lg : ST := (sSeq (sIf (bOf (eBin dEq (eVar 1) (eC (.int 0)))) sBrk sNop) (sPar 0 1 (eVar 1) (eBin dMod (eVar 0) (eVar 1))))
def g_lgcd : List D → M D := mkF 2 3 (sSeq (sPar 0 1 (eCallB dAbs (lCons (eVar 0) lNil)) (eCallB dAbs (lCons (eVar 1) lNil))) (sSeq (sFor (.n 2) (itR1 (eC (.int 400))) [2] y_lg) (sRet (eVar 0))))
def stE (s : Nat × Nat) : Nat × Nat := (s.2, s.1 % s.2)
def itE : Nat → Nat × Nat → Nat × Nat
  | 0, s => s
  | n + 1, s => itE n (stE s)
theorem itE_foldl {α : Type} : ∀ (l : List α) (s : Nat × Nat), l.foldl (fun s _ => stE s) s = itE l.length s
  | [], s => rfl
  | x :: l, s => by rw [List.foldl_cons, itE_foldl l]; rfl
theorem itE_gcd : ∀ (n : Nat) (s : Nat × Nat), Nat.gcd (itE n s).1 (itE n s).2 = Nat.gcd s.1 s.2
  | 0, s => rfl
  | n + 1, s => by
    show Nat.gcd (itE n (stE s)).1 (itE n (stE s)).2 = _
    rw [itE_gcd n]
    show Nat.gcd s.2 (s.1 % s.2) = _
    rw [Nat.gcd_comm s.1 s.2, Nat.gcd_rec s.2 s.1, Nat.gcd_comm]
theorem itE_zero : ∀ (k : Nat) (a b : Nat), b < 2 ^ k → ∃ n, n ≤ 2 * k ∧ (itE n (a, b)).2 = 0
  | 0, a, b, h => by
    have z : b = 0 := by simpa using h
    exact ⟨0, by omega, z⟩
  | k + 1, a, b, h => by
    rcases Nat.eq_zero_or_pos b with z | hb
    · exact ⟨0, by omega, z⟩
    · rcases Nat.eq_zero_or_pos (a % b) with z | hr
      · exact ⟨1, by omega, z⟩
      · have lt := Nat.mod_lt a hb
        have l2 := Nat.mod_lt b hr
        have h3 : b % (a % b) < 2 ^ k := by
          rw [Nat.pow_succ] at h
          by_cases h2 : a % b < 2 ^ k
          · omega
          · have : b % (a % b) = (b - a % b) % (a % b) := by rw [Nat.mod_eq_sub_mod (by omega)]
            have := Nat.mod_le (b - a % b) (a % b)
            omega
        obtain ⟨n, hn, e⟩ := itE_zero k (a % b) (b % (a % b)) h3
        exact ⟨n + 2, by omega, e⟩
abbrev eL (s : Nat × Nat) (t : Option SV) : En := [some (.v (.int (s.1 : Nat))), some (.v (.int (s.2 : Nat))), t]
theorem g_lgcd_eq {i j : Int} (h : j.natAbs < 2 ^ 190) : g_lgcd [.int i, .int j] = M.pure (.int ((Int.gcd i j : Nat) : Int)) := by
  have ab : ∀ i : Int, (if i < 0 then -i else i) = (i.natAbs : Int) := fun i => by split <;> omega
  refine mkF_rt ?_
  refine (seq_nx (ρ' := eL (i.natAbs, j.natAbs) none) ?_).trans ?_
  · unfold sPar
    rw [callB_ok (ds := [.int i]) (z := .int (i.natAbs : Int)) rfl (by show some (PyData.int (if i < 0 then -i else i)) = _; rw [ab]), M.pure_bind,
      callB_ok (ds := [.int j]) (z := .int (j.natAbs : Int)) rfl (by show some (PyData.int (if j < 0 then -j else j)) = _; rw [ab])]
    rfl
  obtain ⟨n, s', e, hn, hs, hf, ht⟩ := for_brk (vs := [2]) (tg := .n 2) (b := y_lg) (fun i : Nat => PyData.int (i : Nat)) (fun s => eL s none) (fun s _ => stE s) (fun s => decide (s.2 = 0)) (fun _ _ => True) (List.range 400) (i.natAbs, j.natAbs) (eL (i.natAbs, j.natAbs) none) (fun t r s _ => by
    refine ⟨eL s (some (.v (.int (t : Nat)))), rfl, ?_⟩
    have tst : bOf (eBin dEq (eVar 1) (eC (.int 0))) (eL s (some (.v (.int (t : Nat))))) = M.pure (decide (s.2 = 0)) := of_ok (bin_ok (x := .int (s.2 : Nat)) (y := .int ((0 : Nat) : Int)) rfl rfl eq_nat)
    unfold y_lg
    by_cases hq : s.2 = 0
    · rw [decide_eq_true hq] at tst ⊢
      exact .inl ⟨rfl, eL s (some (.v (.int (t : Nat)))), by unfold sSeq; rw [if_t tst]; rfl, rfl⟩
    · rw [decide_eq_false hq] at tst ⊢
      refine .inr ⟨rfl, eL (stE s) (some (.v (.int (t : Nat)))), (seq_nx ((if_f tst).trans rfl)).trans ?_, rfl, trivial⟩
      have m : eBin dMod (eVar 0) (eVar 1) (eL s (some (.v (.int (t : Nat))))) = M.pure (.int ((s.1 % s.2 : Nat) : Int)) := bin_ok (x := .int (s.1 : Nat)) (y := .int (s.2 : Nat)) rfl rfl (mod_nat (by omega))
      unfold sPar
      rw [m]
      rfl) trivial rfl
  have val : ∀ m, m ≤ n → ((List.range 400).take m).foldl (fun s _ => stE s) (i.natAbs, j.natAbs) = itE m (i.natAbs, j.natAbs) := fun m hm => by
    rw [itE_foldl, List.length_take, List.length_range]
    rw [List.length_range] at hn
    congr 1
    omega
  rw [List.length_range] at hn ht
  obtain ⟨k, hk, ek⟩ := itE_zero 190 i.natAbs j.natAbs h
  have n1 : n ≤ k := by
    rcases Nat.lt_or_ge k n with lt | ge
    · have := hf k lt
      rw [val k (by omega)] at this
      exact absurd ek (of_decide_eq_false this)
    · exact ge
  have n2 := of_decide_eq_true (ht (by omega))
  have g := itE_gcd n (i.natAbs, j.natAbs)
  rw [hs, val n (Nat.le_refl _)] at n2
  rw [n2, Nat.gcd_zero_right] at g
  rw [hs, val n (Nat.le_refl _)] at e
  refine (seq_nx ((for_ok (r1_ok (j := 400) rfl (by omega))).trans e)).trans ?_
  refine ret_ok (var_ok ?_)
  show some (PyData.int ((itE n (i.natAbs, j.natAbs)).1 : Nat)) = _
  rw [g]; rfl
def g_lfrac : List D → M D := mkF 2 3 (sSeq (sSet 2 (eCall g_lgcd (lCons (eVar 0) (lCons (eVar 1) lNil)))) (sRet (eTup (lCons (eBin dDiv (eVar 0) (eVar 2)) (lCons (eBin dDiv (eVar 1) (eVar 2)) lNil)))))
theorem g_lfrac_eq {a b : Int} (hb : 0 < b) (h2 : b < 1073741824) : g_lfrac [.int a, .int b] = M.pure (ofP (nfD a b)) := by
  have g := gcd_bd (a := a) hb
  have h3 : b.natAbs < 2 ^ 190 := Nat.lt_trans (show b.natAbs < 1073741824 by omega) (by decide)
  refine mkF_rt ?_
  refine (seq_nx (ρ' := [some (.v (.int a)), some (.v (.int b)), some (.v (.int (Int.gcd a b : Nat)))]) ((set_ok ((call_ok (ds := [.int a, .int b]) rfl).trans (g_lgcd_eq h3)) (by show 2 < 3; omega)).trans rfl)).trans ?_
  exact ret_ok (tup_ok (xs := [.int (a / (Int.gcd a b : Nat)), .int (b / (Int.gcd a b : Nat))]) (cons_ok (bin_ok (x := .int a) (y := .int (Int.gcd a b : Nat)) rfl rfl (div_int g.1 (by omega))) (one_ok (bin_ok (x := .int b) (y := .int (Int.gcd a b : Nat)) rfl rfl (div_int g.1 (by omega))))) (by show 2 ≤ 16777216; omega))
end Lay

set_option Elab.async false
set_option linter.all false
set_option maxRecDepth 100000
set_option maxHeartbeats 4000000
/-! Rules for k04: a dict of ints, all True; sorted of tuples; sorted(set(tuple)); list(range(a, b, c)) -/
namespace Lay
open PySem PySem.Spec PyProof.Rows L2

/-! ### a dict slot -/
def getK (ρ : En) (i : Nat) : Option (List Int) := match ρ[i]? with
  | some (some (.dct ks)) => some ks
  | _ => none
def setK (ρ : En) (i : Nat) (ks : List Int) : En := ρ.set i (some (.dct ks))
abbrev kvT (ks : List Int) : List (L2.Key × V) := ks.map fun k => (Sum.inl k, V.bl true)
def putI (ks : List Int) (z : Int) : List Int := if z ∈ ks then ks else ks ++ [z]
theorem kv_any (ks : List Int) (z : Int) : ((kvT ks).any fun kv => decide (kv.1 = (Sum.inl z : L2.Key))) = decide (z ∈ ks) := by
  rw [Bool.eq_iff_iff, List.any_eq_true, decide_eq_true_eq]
  constructor
  · rintro ⟨p, hp, e⟩
    obtain ⟨k, hk, rfl⟩ := List.mem_map.mp hp
    have := of_decide_eq_true e
    injection this with this
    rw [← this]; exact hk
  · intro h
    exact ⟨_, List.mem_map.mpr ⟨z, h, rfl⟩, by simp⟩
theorem kv_put (ks : List Int) (z : Int) : putK (kvT ks) (Sum.inl z : L2.Key) (V.bl true) = kvT (putI ks z) := by
  unfold putK putI
  rw [kv_any]
  by_cases h : z ∈ ks
  · rw [decide_eq_true h, if_pos rfl, if_pos h]
    show List.map _ (List.map _ ks) = _
    rw [List.map_map]
    refine List.map_congr_left fun k _ => ?_
    show (if (Sum.inl k : L2.Key) = Sum.inl z then ((Sum.inl k : L2.Key), V.bl true) else (Sum.inl k, V.bl true)) = _
    split <;> rfl
  · rw [decide_eq_false h, if_neg Bool.false_ne_true, if_neg h]
    show _ = List.map _ (ks ++ [z])
    rw [List.map_append]; rfl
theorem kv_val (ks : List Int) (z : Int) : (valV (kvT ks) (Sum.inl z : L2.Key)).isSome = decide (z ∈ ks) := by
  rw [← kv_any, valV_any]
section
variable {C : Ct} {X : Cx}
/-- a slot gets a dict -/
theorem Rel.setK {σ : L2.St} {ρ : En} {F H : Hp} {δ : Dice} (R : Rel C σ ρ F H δ) {i : Nat} {p : Addr} {ks : List Int} (hp : H p = some (.dK (kvT ks))) (f : F p = none) (n0 : C.H0 p = none) (hL : noL ρ = true) : Rel C (σ.set i (some (.ref p))) (setK ρ i ks) F H δ := by
  have ne : ∀ j ds, (Lay.setK ρ i ks)[j]? = some (some (.own ds)) → j ≠ i ∧ ρ[j]? = some (some (.own ds)) := fun j ds e => by
    unfold Lay.setK at e
    by_cases hj : i = j
    · subst hj
      by_cases hl : i < ρ.length
      · rw [List.getElem?_set_self hl] at e; cases e
      · rw [List.getElem?_eq_none (by simpa using hl)] at e; cases e
    · rw [List.getElem?_set_ne hj] at e
      exact ⟨fun z => hj z.symm, e⟩
  refine ⟨R.hs, R.st, R.h0, by unfold Lay.setK; rw [List.length_set, List.length_set]; exact R.len, fun j sv e => ?_, fun j k ds ds' a e1 e2 e3 e4 => ?_, fun j kv e => by
    unfold Lay.setK at e
    by_cases hj : i = j
    · subst hj
      by_cases hl : i < ρ.length
      · rw [List.getElem?_set_self hl] at e; cases e
      · rw [List.getElem?_eq_none (by simpa using hl)] at e; cases e
    · rw [List.getElem?_set_ne hj] at e
      exact absurd e (noL_at hL)⟩
  · unfold Lay.setK at e
    by_cases hj : i = j
    · subst hj
      by_cases hl : i < ρ.length
      · rw [List.getElem?_set_self hl] at e
        cases e
        exact ⟨.ref p, by rw [List.getElem?_set_self (by rw [R.len]; exact hl)], p, rfl, hp, f, n0⟩
      · rw [List.getElem?_eq_none (by simpa using hl)] at e; cases e
    · rw [List.getElem?_set_ne hj] at e
      obtain ⟨u, e1, ok⟩ := R.sl j sv e
      exact ⟨u, by rw [List.getElem?_set_ne hj]; exact e1, ok⟩
  · obtain ⟨n1, q1⟩ := ne j ds e1
    obtain ⟨n2, q2⟩ := ne k ds' e2
    rw [List.getElem?_set_ne n1.symm] at e3
    rw [List.getElem?_set_ne n2.symm] at e4
    exact R.ap j k ds ds' a q1 q2 e3 e4
theorem nc_dk {H : Hp} {p : Addr} {kvs : List (L2.Key × V)} (n : H p = some (.dK kvs)) : ∀ c q, H p ≠ some (LamX.CodeO c q) := fun c q z => by
  rw [n] at z
  have z := Option.some.inj z
  unfold LamX.CodeO at z
  cases z
/-- the dict of the slot i -/
theorem Rel.dct {σ : L2.St} {ρ : En} {F H : Hp} {δ : Dice} (R : Rel C σ ρ F H δ) {i : Nat} {ks : List Int} (e : getK ρ i = some ks) :
    ∃ a, σ[i]? = some (some (.ref a)) ∧ H a = some (.dK (kvT ks)) ∧ F a = none ∧ C.H0 a = none ∧ a ≠ C.aD ∧ a ∉ C.G.tabs ∧ ρ[i]? = some (some (.dct ks)) := by
  unfold getK at e
  split at e
  · rename_i z hz
    cases e
    obtain ⟨v, e1, a, rfl, h1, h2, h3⟩ := R.sl i _ hz
    exact ⟨a, e1, h1, h2, h3, fun z => R.h0.1 (by rw [← z]; exact h3), fun z => R.h0.2 a z h3, hz⟩
  · cases e
/-- it gets one more key -/
theorem Rel.writeK {σ : L2.St} {ρ : En} {F H : Hp} {δ : Dice} (R : Rel C σ ρ F H δ) {i : Nat} {a : Addr} {ks ks' : List Int} (hi : ρ[i]? = some (some (.dct ks))) (ha : σ[i]? = some (some (.ref a))) (f : F a = none) (n0 : C.H0 a = none) (n1 : a ≠ C.aD) (n2 : a ∉ C.G.tabs)
    (hd : H a = some (.dK (kvT ks))) (uq : ∀ (j : Nat) (es : List Int), j ≠ i → ρ[j]? = some (some (.dct es)) → σ[j]? ≠ some (some (.ref a))) : Rel C σ (Lay.setK ρ i ks') F (upd H a (.dK (kvT ks'))) δ := by
  have hil : i < ρ.length := (List.getElem?_eq_some_iff.mp hi).1
  have at_ : ∀ {j : Nat} {sv : SV}, (Lay.setK ρ i ks')[j]? = some (some sv) → (j = i ∧ sv = .dct ks') ∨ (j ≠ i ∧ ρ[j]? = some (some sv)) := fun {j sv} e => by
    unfold Lay.setK at e
    by_cases hj : i = j
    · subst hj
      rw [List.getElem?_set_self hil] at e; cases e; exact .inl ⟨rfl, rfl⟩
    · rw [List.getElem?_set_ne hj] at e
      exact .inr ⟨fun z => hj z.symm, e⟩
  refine ⟨R.hs.own f n1 n2 (nc_dk hd), Step.own R.st n0, R.h0, by unfold Lay.setK; rw [List.length_set]; exact R.len, fun j sv e => ?_, fun j k es es' b e1 e2 e3 e4 => ?_, fun j kv e => by
    rcases at_ e with ⟨_, z⟩ | ⟨_, e⟩
    · cases z
    · exact (R.no_dct hi e).elim⟩
  · rcases at_ e with ⟨rfl, rfl⟩ | ⟨hj, e⟩
    · exact ⟨_, ha, a, rfl, upd_same, f, n0⟩
    · obtain ⟨v, e1, ok⟩ := R.sl j sv e
      refine ⟨v, e1, ?_⟩
      cases sv with
      | v d => exact ok
      | dice => exact ok
      | own es =>
        obtain ⟨b, ws, rfl, g1, g2, g3, g4⟩ := ok
        have nb : b ≠ a := fun z => by rw [z, hd] at g1; cases g1
        exact ⟨b, ws, rfl, by rw [upd_ne nb]; exact g1, g2, g3, g4⟩
      | dct es =>
        obtain ⟨b, rfl, g1, g2, g3⟩ := ok
        have nb : b ≠ a := fun z => uq j es hj e (by rw [e1, z])
        exact ⟨b, rfl, by rw [upd_ne nb]; exact g1, g2, g3⟩
      | dT es =>
        obtain ⟨b, ws, rfl, g1, g2, g3, g4⟩ := ok
        have nb : b ≠ a := fun z => by rw [z, hd] at g1; cases g1
        exact ⟨b, ws, rfl, by rw [upd_ne nb]; exact g1, g2, g3, g4⟩
      | dL es => exact (R.no_dct hi e).elim
  · rcases at_ e1 with ⟨_, z⟩ | ⟨_, q1⟩
    · cases z
    · rcases at_ e2 with ⟨_, z⟩ | ⟨_, q2⟩
      · cases z
      · exact R.ap j k es es' b q1 q2 e3 e4
end
/-- x = {} -/
def sDNew (i : Nat) : ST := fun ρ => if noL ρ = true then M.pure (.nx (setK ρ i [])) else M.stuck
/-- no other slot holds a dict -/
def soleK (ρ : En) (i : Nat) : Bool := (List.range ρ.length).all fun j => j == i || (getK ρ j).isNone
/-- x[e] = True -/
def sDSet (i : Nat) (a : EX) : ST := fun ρ => match getK ρ i with
  | some ks => M.bind (a ρ) fun y => match y with
    | .int z => if ks.length < sizeLine ∧ soleK ρ i = true then M.pure (.nx (setK ρ i (putI ks z))) else M.stuck
    | _ => M.stuck
  | none => M.stuck
/-- e not in x -/
def bDNotIn (i : Nat) (a : EX) : EB := fun ρ => match getK ρ i with
  | some ks => M.bind (a ρ) fun y => match y with
    | .int z => M.pure (!decide (z ∈ ks))
    | _ => M.stuck
  | none => M.stuck
theorem sole_ne {ρ : En} {i : Nat} (h : soleK ρ i = true) {j : Nat} {es : List Int} (hj : j ≠ i) (e : ρ[j]? = some (some (.dct es))) : False := by
  unfold soleK at h
  have hl : j < ρ.length := (List.getElem?_eq_some_iff.mp e).1
  have := List.all_eq_true.mp h j (List.mem_range.mpr hl)
  unfold getK at this
  rw [e] at this
  simp [hj] at this
section
variable {C : Ct} {X : Cx} {ta : TE} {fa : EX}
theorem evs_dnew {i : Nat} : EvS C (tAsg tDNewK (gName i)) (sDNew i) := fun D' σ ρ F H δ r R e p => by
  unfold sDNew at e
  split at e
  case isFalse => cases e
  rename_i hL
  cases (Option.some.inj e).symm
  intro q nq
  have n1 : q ≠ C.aD := fun z => R.hs.dne (by rw [← z]; exact nq)
  have n2 : q ∉ C.G.tabs := fun z => R.hs.tne z nq
  have n0 : C.H0 q = none := by
    cases z : C.H0 q with
    | none => rfl
    | some o => exact absurd nq (R.st.dom q (by rw [z]; exact fun z => nomatch z))
  have fq := R.hs.fne nq
  have R2 : Rel C σ ρ F (upd H q (.dK [])) δ := by
    refine R.step (R.hs.own fq n1 n2 (nc_none nq)) ⟨Ext.refl _, fun _ _ _ _ _ h _ => h, fun a o z _ _ => by rw [upd_ne (ne_of_none z nq)]; exact z, fun a z => ?_⟩
    by_cases ea : a = q
    · rw [ea, upd_same]; exact fun z => nomatch z
    · rw [upd_ne ea]; exact z
  exact p.nx (R2.setK (ks := []) upd_same fq n0 hL) (Ext.refl F)
theorem evs_dset {i : Nat} (ha : EvE C ta fa) : EvS C (sDPut (tVar i) ta (tC (.bl true))) (sDSet i fa) := fun D' σ ρ F H δ r R e p => by
  unfold sDSet at e
  cases q : getK ρ i with
  | none => rw [q] at e; cases e
  | some ks =>
    rw [q] at e
    obtain ⟨a, h1, h2, h3, h4, h6, h7, h8⟩ := R.dct q
    refine ⟨_, h1, ?_⟩
    refine ha.then R e p.err fun d δ1 v F1 H1 e1 R1 s1 rp => ?_
    cases rp with
    | int z =>
      dsimp only at e1
      split at e1
      · rename_i hz
        cases (Option.some.inj e1).symm
        have h2' := s1.keep a _ h2 h6 h7
        have f' := s1.new a _ h2 h6 h7 h3 (fun xs z => nomatch z)
        refine ⟨a, _, rfl, DPut.k (k := Sum.inl z) h2' (by rw [List.length_map]; exact hz.1), ?_⟩
        rw [kv_put]
        exact p.nx (R1.writeK h8 h1 f' h4 h6 h7 h2' fun j es hj ej _ => sole_ne hz.2 hj ej) s1.ex
      · cases e1
    | _ => cases e1
theorem evt_dnotIn {i : Nat} (ha : EvE C ta fa) : EvT C (tB (tDNotIn ta (tVar i))) (bDNotIn i fa) := fun σ ρ F H δ Q r R e p => by
  unfold bDNotIn at e
  cases q : getK ρ i with
  | none => rw [q] at e; cases e
  | some ks =>
    rw [q] at e
    obtain ⟨a, h1, h2, h3, h4, h6, h7, h8⟩ := R.dct q
    refine ha.then R e (fun nm δ' z => by subst z; exact p) fun d δ1 v F1 H1 e1 R1 s1 rp => ?_
    cases rp with
    | int z =>
      cases (Option.some.inj e1).symm
      refine ⟨_, h1, a, _, rfl, DGet.k (k := Sum.inl z) (s1.keep a _ h2 h6 h7), !decide (z ∈ ks), ?_, p F1 H1 R1.hs s1⟩
      rw [kv_val]
    | _ => cases e1
theorem js_dnew {i : Nat} {x : Str} {pos pos' p2 : Pos} (nd : X.N.Nodup) (hi : X.N[i]? = some x := by rfl) (hx : Loc X.env.scope x := by first | exact .inl rfl | exact .inr rfl) (hs : swapsWith (.Dict [] [] p2) (some (.Name x pos')) pos.line X.env = pure false := by rfl) (hf : X.fn x = true ∨ X.env.scope.names.lookup x = some .local := by first | exact .inl rfl | exact .inr rfl) :
    JS C X (.Assign [.Name x pos'] (.Dict [] [] p2) pos) (sDNew i) := js (ps_set nd hi hx pe_dnewK hs hf) evs_dnew
theorem js_dset {e : Expr} {k i : Nat} {x : Str} {kk : Nat} {pos p1 p2 p3 : Pos} (hr : Room k X.A) (ha : JE C X e fa) (hN : X.N[i]? = some x := by rfl) (hv : Vis X.env.scope x := by first | exact .inl rfl | exact .inr (.inl rfl) | exact .inr (.inr rfl)) (hd : (x == ("__debug__" : Str)) = false := by decide) (hcd : (x == ("__classdict__" : Str)) = false := by decide)
    (hs : swapsWith (.Constant (.bool true) kk p3) (some (.Subscript (.Name x p1) e p2)) pos.line X.env = pure false := by rfl) : JS C X (.Assign [.Subscript (.Name x p1) e p2] (.Constant (.bool true) kk p3) pos) (sDSet i fa) :=
  js (ps_dput (by have := Room.near hr; omega) (pe_var hN hv hd hcd) ha pe_bl hs) (evs_dset ev_of)
theorem jt_dnotIn {e : Expr} {k i : Nat} {x : Str} {pos p1 : Pos} (hr : Room k X.A) (ha : JE C X e fa) (hN : X.N[i]? = some x := by rfl) (hv : Vis X.env.scope x := by first | exact .inl rfl | exact .inr (.inl rfl) | exact .inr (.inr rfl)) (hd : (x == ("__debug__" : Str)) = false := by decide) (hcd : (x == ("__classdict__" : Str)) = false := by decide)
    (hm : behindInMarks .NotIn (.Name x p1) = false := by rfl) : JT C X (.Compare e [.NotIn] [.Name x p1] pos) (bDNotIn i fa) :=
  jt (pt_cmp (pc_dnotin (by have := Room.near hr; omega) ha (pe_var hN hv hd hcd)) hm) (evt_dnotIn ev_of)
end
end Lay

set_option Elab.async false
set_option linter.all false
set_option maxRecDepth 100000
set_option maxHeartbeats 4000000
/-! Rules for k04: list(range(a, b, c)); sorted(set(x)), x a list or a tuple of ints; sorted of a tuple -/
namespace Lay
open PySem PySem.Spec PyProof.Rows L2

/-! ### list(range(i, j, c)) -/
def eListSt (l : EL) : EX := fun ρ => M.bind (l ρ) fun xs => match xs with
  | [.int i, .int j, .int k] => if stepOk i j k = true then M.pure (.list (rngS i k (stepN i j k))) else M.stuck
  | _ => M.stuck
def tListSt (ta : TA) : TE := fun σ H Q => ta σ H fun vs H1 => ∃ i j k, vs = [.int i, .int j, .int k] ∧ stepOk i j k = true ∧ ∀ q, H1 q = none → Q (.ref q) (upd H1 q (.lst (rngSV i k (stepN i j k))))
theorem pe_listSt {X : Cx} {a b c : Expr} {ta : TA} {p p2 q pos : Pos} (hc : X.calm = true) (hg : Gl X "list") (hm : X.mg "list" = none) (hg2 : Gl X "range") (hm2 : X.mg "range" = none) (ha : PA X [a, b, c] ta)
    (na : starEach [.Call (.Name "range" p2) [a, b, c] [] q] X.env = (false, eval (.Call (.Name "range" p2) [a, b, c] [] q) X.env) :: starEach [] X.env := by rfl)
    (hs : starEach [a, b, c] X.env = (false, eval a X.env) :: starEach [b, c] X.env := by rfl) (hpl : (backTo q (starEach [b, c] X.env)).any (·.1) = false := by rfl) :
    PE X (.Call (.Name "list" p) [.Call (.Name "range" p2) [a, b, c] [] q] [] pos) (tListSt ta) := by
  refine ⟨fun pins s σ H Q I h => ?_⟩
  refine Call_ (ld_blt I hg hm Boot.«list» (PyProof.Rows.callWith_type1 (args_cons ?_ na) na))
  refine Call_ (ld_blt I hg2 hm2 boot_range (PyProof.Rows.callWith_type1 (thn (ha.run q pins s σ H _ I h) fun us s1 ⟨vs, H1, I1, r1, q1⟩ => ?_) hs hpl))
  obtain ⟨i, j, k, rfl, ok, q1⟩ := q1
  cases r1 with
  | @cons _ u1 _ us2 rv rr =>
  obtain ⟨u2, u3, rfl, r2, r3⟩ := vals2 rr
  obtain ⟨t1, rfl⟩ := rv
  obtain ⟨t2, rfl⟩ := r2
  obtain ⟨t3, rfl⟩ := r3
  have hn := stepN_le ok
  have h1 : 1 ≤ k ∧ k ≤ 1000000 := by
    unfold stepOk at ok
    simp only [Bool.and_eq_true, decide_eq_true_eq] at ok
    exact ⟨ok.1.2, ok.2⟩
  refine call_range_3 (by omega) ?_ (.inl (PyProof.noPylong_small (by omega)))
  have I2 : Inv X pins σ H1 { s1 with heap := s1.heap.push { cls := .type "range", data := .fields #[.int i t1, .int j t2, .int k t3] }, toks := s1.toks } := I1.kept fun b u e => Heap.get?_push_of_some _ e
  refine args_nil (call_list_range (n := stepN i j k) (I2.ok.hd hc) (IsRange.new ..) (step_small ok) hn.2 (Nat.le_trans hn.1 (by decide)) fun h' tk acc c' hk he hi => ?_)
  refine ⟨.ref _, upd H1 _ (.lst (rngSV i k (stepN i j k))), I2.laid (t' := tk) (fun b o e => hk b o e) (Nat.le_refl _) ⟨?_, acc.toList, c', vals_st hi, ?_⟩, rfl, q1 _ (I2.hok.fresh (Nat.le_refl _))⟩
  · rw [rngS_len, sizeLine_eq]; omega
  · rw [Array.toArray_toList]; exact he
section
variable {C : Ct} {X : Cx}
theorem ev_listSt {la : TA} {gl : EL} (h : EvA C la gl) : EvE C (tListSt la) (eListSt gl) := fun σ ρ F H δ Q r R e p =>
  h.then R e p.err fun ds δ1 vs F1 H1 e1 R1 s1 rp => by
    split at e1
    · rename_i i j k
      split at e1
      · rename_i hk
        cases (Option.some.inj e1).symm
        have ev := ints_rp rp (ns := [i, j, k]) rfl
        subst ev
        exact ⟨i, j, k, rfl, hk, fun q nq => (p.mono s1).list R1.hs nq (rp_rgS i k _)⟩
      · cases e1
    · cases e1
theorem je_listSt {a b c : Expr} {gl : EL} {p p2 q pos : Pos} (hc : X.calm = true) (hm : X.mg "list" = none) (hm2 : X.mg "range" = none) (ha : JA C X [a, b, c] gl) (hg : Gl X "list" := by rfl) (hg2 : Gl X "range" := by rfl)
    (na : starEach [.Call (.Name "range" p2) [a, b, c] [] q] X.env = (false, eval (.Call (.Name "range" p2) [a, b, c] [] q) X.env) :: starEach [] X.env := by rfl)
    (hs : starEach [a, b, c] X.env = (false, eval a X.env) :: starEach [b, c] X.env := by rfl) (hpl : (backTo q (starEach [b, c] X.env)).any (·.1) = false := by rfl) :
    JE C X (.Call (.Name "list" p) [.Call (.Name "range" p2) [a, b, c] [] q] [] pos) (eListSt gl) := je (pe_listSt hc hg hm hg2 hm2 ha na hs hpl) (ev_listSt eva_of)
end
/-! ### sorted(set(x)), x a list or a tuple -/
section
variable {X : Cx} {a : Expr} {ta : TE} {p p2 q pos : Pos}
def tSortSetA (K : PySem.W.Frag) (ta : TE) : TE := fun σ H Q => ta σ H fun x H1 => ∃ l ns, x = V.ref l ∧ (SqL K H1 l (ns.map V.int) ∨ SqT K H1 l (ns.map V.int)) ∧ ns.length + 1 < 4096 ∧ (sset ns).length < 64 ∧ ∀ p, H1 p = none → Q (.ref p) (upd H1 p (.lst ((sset ns).map V.int)))
theorem pe_sortSetA (hc : X.calm = true) (hg : Gl X "sorted") (hm : X.mg "sorted" = none) (hg2 : Gl X "set") (hm2 : X.mg "set" = none) (ha : PE X a ta)
    (na : starEach [a] X.env = (false, eval a X.env) :: starEach [] X.env := by rfl) : PE X (.Call (.Name "sorted" p) [.Call (.Name "set" p2) [a] [] q] [] pos) (tSortSetA X.K ta) := by
  refine ⟨fun pins s σ H Q I h => Call_ (ld_blt I hg hm Boot.«sorted» (PyProof.Rows.callWith_builtin1 (args_cons ?_ rfl) rfl rfl))⟩
  refine Call_ (ld_blt I hg2 hm2 PyProof.Rows.boot_set (PyProof.Rows.callWith_type1 (args_cons (thn (ha.run pins s σ H _ I h) fun v s1 ⟨x, H1, I1, r1, q1⟩ => args_nil ?_) na) na rfl))
  obtain ⟨l, ns, rfl, hq, b1, b2, q1⟩ := q1
  cases r1
  rcases hq with hq | hq
  · obtain ⟨its, rv, pl, hz⟩ := I1.list hq
    refine call_set_ints ns (I1.ok.hd hc) pl.isList (by simpa using rv.ints) b1 fun h' tk c R hk => args_nil ?_
    have I2 : Inv X pins σ H1 { s1 with heap := h', toks := tk } := I1.kept hk
    exact sort_setR (s := { s1 with heap := h', toks := tk }) hc I2 R b2 q1
  · obtain ⟨its, rv, pl, hz⟩ := I1.tuple hq
    refine call_set_tupI ns (I1.ok.hd hc) pl (by simpa using rv.ints) b1 fun h' tk c R _ hk => args_nil ?_
    have I2 : Inv X pins σ H1 { s1 with heap := h', toks := tk } := I1.kept hk
    exact sort_setR (s := { s1 with heap := h', toks := tk }) hc I2 R b2 q1
end
def sq? : D → Option (List D)
  | .list ds => some ds
  | .tuple ds => some ds
  | _ => none
def eSortSetA (a : EX) : EX := fun ρ => M.bind (a ρ) fun x => M.lift ((sq? x).bind fun ds => (intsD ds).bind fun ns => if ns.length + 1 < 4096 ∧ (sset ns).length < 64 then some (.list ((sset ns).map .int)) else none)
section
variable {C : Ct} {X : Cx}
theorem ev_sortSetA {K : PySem.W.Frag} {ta : TE} {fa : EX} (ha : EvE C ta fa) : EvE C (tSortSetA K ta) (eSortSetA fa) := fun σ ρ F H δ Q r R e p =>
  ha.then R e p.err fun d δ1 v F1 H1 e1 R1 s1 rp => by
    obtain ⟨z, e2, rfl⟩ := M.lift_some e1
    obtain ⟨ds, e0, e2⟩ := Option.bind_eq_some_iff.mp e2
    obtain ⟨ns, e3, e4⟩ := Option.bind_eq_some_iff.mp e2
    split at e4
    · rename_i hk
      cases (Option.some.inj e4)
      cases rp with
      | @lst a xs ds h1 r1 =>
        cases e0
        have e5 := ints_rp r1 e3
        subst e5
        exact ⟨a, ns, rfl, .inl (SqL.of (R1.hs.sub _ _ h1)), hk.1, hk.2, fun q nq => (p.mono s1).list R1.hs nq (rp_ints _)⟩
      | @tup a xs ds h1 r1 =>
        cases e0
        have e5 := ints_rp r1 e3
        subst e5
        exact ⟨a, ns, rfl, .inr (SqT.of (R1.hs.sub _ _ h1)), hk.1, hk.2, fun q nq => (p.mono s1).list R1.hs nq (rp_ints _)⟩
      | _ => cases e0
    · cases e4
theorem je_sortSetA {a : Expr} {fa : EX} {p p2 q pos : Pos} (hc : X.calm = true) (hm : X.mg "sorted" = none) (hm2 : X.mg "set" = none) (ha : JE C X a fa) (hg : Gl X "sorted" := by rfl) (hg2 : Gl X "set" := by rfl)
    (na : starEach [a] X.env = (false, eval a X.env) :: starEach [] X.env := by rfl) : JE C X (.Call (.Name "sorted" p) [.Call (.Name "set" p2) [a] [] q] [] pos) (eSortSetA fa) := je (pe_sortSetA hc hg hm hg2 hm2 ha na) (ev_sortSetA ev_of)
end
/-! ### sorted(x), x a tuple -/
section
variable {prog : Program} {w : World} {A : Around} {E : Value → Shared → Prop} {s : Shared}
/-- the items of a tuple, collected -/
theorem coll_tup {t : Addr} {its : List Value} {R : List Value → Shared → Prop} (ht : s.heap.IsTuple t its.toArray) (hz : its.length ≤ sizeLine)
    (hr : R its { s with heap := (s.heap.push (seqObj "list" #[] 0)).update s.heap.objs.size (Obj.mapSeq (· ++ its.toArray)) }) : wpAny (model prog w) A (collect (.ref t)) R E s := by
  obtain ⟨o, h1, h2, m, h3⟩ := id ht
  have g1 : (s.heap.push (seqObj "list" #[] 0)).get? t = some o := Heap.get?_push_of_some _ h1
  have g2 : (s.heap.push (seqObj "list" #[] 0)).get? s.heap.objs.size = some (seqObj "list" #[] 0) := Heap.get?_push_size _ rfl
  unfold collect
  refine wpAny_bind (wpAny_runValue (codeAny_builtin (F.entry_proto_collect) ?_))
  show wpAny _ _ (do again (.builtin "list.__iadd__" ⟨[← newList [], .ref t], []⟩)) _ _ s
  refine wpAny_bind (wpAny_newList (wpAny_pure (And.intro (Code.quiet_builtin _ (by decide +kernel)) (codeAny_builtin F.entry_list_iadd ?_))))
  show wpAny _ _ (Builtin.List.listExtendWith (.ref s.heap.objs.size) (.ref t) (.ref s.heap.objs.size)) _ _ ({ s with heap := s.heap.push (seqObj "list" #[] 0) } : Shared)
  unfold Builtin.List.listExtendWith
  refine wpAny_bind (wpAny_typeOf (T := "tuple") (by exact ⟨o, g1, h2⟩) ?_)
  have yes : ∀ b : Bool, (b || Value.type "tuple" == Value.type "list" || Value.type "tuple" == Value.type "tuple") = true := fun b => by
    rw [Bool.or_eq_true]; exact .inr (by decide +kernel)
  rw [if_pos (yes _)]
  refine wpAny_bind (listItems_at (s := { s with heap := s.heap.push (seqObj "list" #[] 0) }) g1 h3 ?_)
  refine wpAny_bind (listItems_at (xs := #[]) (n := 0) (s := { s with heap := s.heap.push (seqObj "list" #[] 0) }) g2 rfl ?_)
  rw [if_neg (by simp)]
  refine wpAny_bind (listUpdate_at (xs := #[]) (n := 0) (s := { s with heap := s.heap.push (seqObj "list" #[] 0) }) g2 rfl ?_ (Nat.zero_le _) ?_)
  · refine wpAny_pure ?_
    show wpAny (model prog w) A (load s.heap.objs.size >>= fun o => match o.data with
      | .seq xs _ => pure xs.toList
      | _ => unsupported "internal:collect") R E ({ s with heap := (s.heap.push (seqObj "list" #[] 0)).update s.heap.objs.size (Obj.mapSeq (· ++ its.toArray)) } : Shared)
    refine wpAny_bind (wpAny_load (get?_update_seq g2 _) ?_)
    show wpAny _ _ (pure ((#[] : Array Value) ++ its.toArray).toList) R E _
    have e : ((#[] : Array Value) ++ its.toArray).toList = its := by simp
    rw [e]
    exact wpAny_pure hr
  · show ((#[] : Array Value) ++ its.toArray).size ≤ sizeLine + 1
    simp only [Array.size_append, List.size_toArray, List.length_nil]
    omega
open SrtO in
/-- sorted(t), t a tuple: as of a list -/
theorem sorted_tupO {t : Addr} {its : List Value} {lt : Value → Value → Bool} {R : Value → Shared → Prop} (sw : Swo lt) (ht : s.heap.IsTuple t its.toArray) (hz : its.length ≤ sizeLine)
    (hc : 2 ≤ its.length → ∀ (h₁ : Heap) (a : Addr), h₁.get? a = some (seqObj "list" its.toArray 0) → (∀ b o, s.heap.get? b = some o → b ≠ a ∧ h₁.get? b = some o) → SortableO prog w A.in1.in1 { s with heap := h₁ } a its lt)
    (hr : ∀ out : List Value, Srtd lt out → Stb lt out its → R (.ref (s.heap.objs.size + 1)) { s with heap := sortedAll s.heap its out.toArray }) :
    wpAny (model prog w) A (call (.builtin "sorted") [.ref t]) R E s := by
  refine Calls.call_function_entry kind_sorted plain_sorted entry_sorted (args_sorted1 _) ?_
  unfold Builtin.«sorted»
  refine wpAny_bind (m := checkCount "sorted" 1 1 _) (wpAny_pure ?_)
  refine wpAny_bind (coll_tup ht hz ?_)
  refine wpAny_bind (wpAny_newList ?_ hz)
  have z1 : ((s.heap.push (seqObj "list" #[] 0)).update s.heap.objs.size (Obj.mapSeq (· ++ its.toArray))).objs.size = s.heap.objs.size + 1 := by
    rw [Heap.size_update, size_push']
  have g1 : (((s.heap.push (seqObj "list" #[] 0)).update s.heap.objs.size (Obj.mapSeq (· ++ its.toArray))).push (seqObj "list" its.toArray 0)).get? (s.heap.objs.size + 1) = some (seqObj "list" its.toArray 0) := by
    rw [← z1]; exact Heap.get?_push_size _ rfl
  show wpAny _ _ _ _ _ ({ s with heap := ((s.heap.push (seqObj "list" #[] 0)).update s.heap.objs.size (Obj.mapSeq (· ++ its.toArray))).push (seqObj "list" its.toArray 0) } : Shared)
  rw [z1]
  refine wpAny_bind (wpAny_holding (wpAny_call_entry slot_list_sort (by exact ⟨_, g1, rfl⟩) entry_list_sort (list_sort_ord sw g1 hz (fun h2 => hc h2 _ _ g1 fun b o e => ?_) fun out so st => ⟨_, rfl, wpAny_pure ⟨_, rfl, hr out so st⟩⟩) (args_list_sort _)))
  have hlt := Heap.lt_size e
  refine ⟨Nat.ne_of_lt (Nat.lt_succ_of_lt hlt), Heap.get?_push_of_some _ ?_⟩
  rw [Heap.get?_update_ne _ _ _ _ (Nat.ne_of_lt hlt)]
  exact Heap.get?_push_of_some _ e
end
def rSortTI (K : PySem.W.Frag) : List V → Hp → VK → Prop := fun vs H Q => ∃ (a : Addr) (ns : List Int), vs = [V.ref a] ∧ SqT K H a (ns.map V.int) ∧
  ∀ (ns' : List Int) (p : Addr), ns'.Perm ns → ns'.Pairwise (· ≤ ·) → H p = none → Q (.ref p) (upd H p (.lst (ns'.map V.int)))
def rSortTP (K : PySem.W.Frag) : List V → Hp → VK → Prop := fun vs H Q => ∃ (a : Addr) (xs : List V) (k : V → Int × Int), vs = [V.ref a] ∧ SqT K H a xs ∧ (∀ x ∈ xs, ∃ t, x = V.ref t ∧ H t = some (.tup [.int (k x).1, .int (k x).2])) ∧
  ∀ ys p, SrtO.Srtd (ltP k) ys → SrtO.Stb (ltP k) ys xs → H p = none → Q (.ref p) (upd H p (.lst ys))
section
variable {X : Cx}
theorem isT {h : Heap} {a : Addr} {l : List Value} (H : IsTup h a l.toArray) : h.IsTuple a l.toArray := by
  exact H
theorem cr_sortTI : CallR X (.builtin "sorted") (rSortTI X.K) := by
  intro pins s σ H vs us Q I r h
  obtain ⟨a, ns, rfl, hs, q⟩ := h
  obtain ⟨its, rv, hl, hz⟩ := I.tuple hs
  rw [Vals.ref1 r]
  have hi := rv.ints
  refine sorted_tupO SrtO.swo_int hl (by rw [← rv.length]; exact hz) (fun h2 h₁ a' _ _ => SrtO.ints_sortable hi h2) fun out h1 h2 => ?_
  obtain ⟨k1, k2, k3⟩ := SrtO.ints_out hi h1 h2
  obtain ⟨ep, he'⟩ := PyProof.Rows.sortedAll_at s.heap its out.toArray
  have hlen : ((out.map SrtO.iv).map V.int).length ≤ sizeLine := by
    rw [List.length_map, k2.length_eq]
    rw [List.length_map] at hz
    omega
  exact ⟨.ref _, _, I.laid (t' := s.toks) (fun _ _ => PyProof.Rows.sortedAll_old) (Nat.le_succ _) (show ObjOk X.prog X.w _ _ _ (.lst ((out.map SrtO.iv).map V.int)) from ⟨hlen, out, ep, vals_of_ints k1, he'⟩), rfl, q _ _ k2 k3 (I.hok.fresh (Nat.le_succ _))⟩
theorem cr_sortTP : CallR X (.builtin "sorted") (rSortTP X.K) := by
  intro pins s σ H vs us Q I r h
  obtain ⟨a, xs, k, rfl, hs, hx, q⟩ := h
  obtain ⟨its, rv, hl, hz⟩ := I.tuple hs
  rw [Vals.ref1 r]
  obtain ⟨e1, e2⟩ := refs_back rv fun x m => ⟨(hx x m).choose, (hx x m).choose_spec.1⟩
  have hp : ∀ v ∈ its, Srt.IsPair s.heap v (k (backV v)).1 (k (backV v)).2 := fun v hv => by
    obtain ⟨t, rfl⟩ := e2 v hv
    have hm : V.ref t ∈ xs := by rw [e1]; exact List.mem_map.mpr ⟨_, hv, rfl⟩
    obtain ⟨t', e, ht⟩ := hx _ hm
    cases e
    obtain ⟨_, its2, r2, o, ho, hc, n, hd⟩ := I.hok _ _ ht
    obtain ⟨_, _, rfl, ⟨t1, rfl⟩, ⟨t2, rfl⟩⟩ := vals2 r2
    exact ⟨t, o, t1, t2, n, rfl, ho, hc, hd⟩
  refine sorted_tupO (SrtO.swo_lex fun u => k (backV u)) hl (by rw [← rv.length]; exact hz) (fun h2 h₁ a ha kk => ?_) fun out h1 h2 => ?_
  · refine SrtO.pairs_sortableO (s := { s with heap := h₁ }) (by omega) (fun v hm => (hp v hm).keeps fun b o e _ => (kk b o e).2) fun o e => ?_
    have z : some o = some (seqObj "list" its.toArray 0) := e.symm.trans ha
    cases z
    exact fun c => absurd (Value.type.inj c) (by decide)
  · have h3 : ∀ u ∈ out, ∃ a, u = Value.ref a := fun u hu => e2 u (h2.perm.mem_iff.mp hu)
    obtain ⟨n, hn⟩ := PyProof.Rows.sortedAll_at s.heap its out.toArray
    have hb : SrtO.Stb (ltP k) (out.map backV) xs := by rw [e1]; exact SrtO.Stb.map (ltP_swo k) backV h2
    exact ⟨.ref _, upd H _ (.lst (out.map backV)), I.laid (t' := s.toks) (fun _ _ => PyProof.Rows.sortedAll_old) (Nat.le_succ _) ⟨by rw [hb.len]; exact hz, out, n, vals_back h3, hn⟩, rfl, q _ _ (SrtO.srtd_map h1) hb (I.hok.fresh (Nat.le_succ _))⟩
end
def dSortTI : List D → Option D
  | [.tuple ds] => (intsD ds).map fun ns => .list ((sortI ns).map .int)
  | _ => none
def dSortTP : List D → Option D
  | [.tuple ds] => (pairsD ds).map fun ns => .list ((sortP ns).map ofP)
  | _ => none
section
variable {C : Ct}
theorem raw_sortTI {K : PySem.W.Frag} : RawL C (rSortTI K) dSortTI := fun F H δ vs ds z Q hs r o p => by
  unfold dSortTI at o
  split at o
  · obtain ⟨ns, e1, e2⟩ := Option.map_eq_some_iff.mp o
    subst e2
    obtain ⟨a, xs, rfl, h1, h2⟩ := one_tup r
    have e3 := ints_rp h2 e1
    subst e3
    refine ⟨a, ns, rfl, SqT.of (hs.sub _ _ h1), fun ns' q pe so nq => ?_⟩
    rw [show ns' = sortI ns from sorted_uniq (fun a b h h' => Int.le_antisymm h h') so (sortI_sorted ns) (pe.trans (sortI_perm ns).symm)]
    exact p.list hs nq (rp_ints _)
  · cases o
theorem raw_sortTP {K : PySem.W.Frag} : RawL C (rSortTP K) dSortTP := fun F H δ vs ds z Q hs r o p => by
  unfold dSortTP at o
  split at o
  · obtain ⟨ns, e1, e2⟩ := Option.map_eq_some_iff.mp o
    subst e2
    obtain ⟨a, xs, rfl, h1, h2⟩ := one_tup r
    obtain ⟨k, e3, hk⟩ := pairs_rp h2 e1
    refine ⟨a, xs, k, rfl, SqT.of (hs.sub _ _ h1), fun x hx => ?_, fun ys q so st nq => ?_⟩
    · obtain ⟨t, e, ht⟩ := hk x hx
      exact ⟨t, e, hs.sub _ _ ht⟩
    · have pe : (ys.map k).Perm ns := by rw [← e3]; exact st.perm.map k
      have so' : (ys.map k).Pairwise (fun p q => leP p q = true) := List.pairwise_map.mpr (so.imp fun {x y} h => by
        unfold leP
        have h : SrtO.lexB (k y) (k x) = false := h
        rw [h]; rfl)
      have e4 : ys.map k = sortP ns := sorted_uniq (fun a b h h' => by
        rw [leP_iff] at h h'
        exact Prod.ext (by omega) (by omega)) so' (sortP_sorted ns) (pe.trans (sortP_perm ns).symm)
      have rr := rp_pairs (F := F) (k := k) (ys := ys) fun x hx => hk x (st.perm.mem_iff.mp hx)
      rw [e4] at rr
      exact p.list hs nq rr
  · cases o
end
end Lay

set_option Elab.async false
set_option linter.all false
set_option maxRecDepth 100000
set_option maxHeartbeats 2000000
/-! More rules for what comes out well; increasing lists -/
namespace Lay
open PySem PySem.Spec PyProof.Rows L2

theorem Good.mkD {np n : Nat} {b : ST} {ds : List D} {δ : Dice} {P : D → Dice → Prop} (hl : ds.length = np) (h : Good (b (some .dice :: ds.map (fun d => some (.v d)) ++ List.replicate (n - np - 1) none)) δ fun f δ' => ∃ d, f = .rt d ∧ P d δ') : Good (mkD np n b ds) δ P := by
  unfold Lay.mkD
  rw [if_pos hl]
  refine Good.bind (h.imp fun f δ' ⟨d, e, q⟩ => ?_)
  subst e
  exact Good.pure q
section
variable {ρ : En} {δ : Dice}
theorem Good.callD {i : Nat} {m : List D → M D} {l : EL} {P : D → Dice → Prop} (hi : dAt ρ i = true) (h : Good (l ρ) δ fun xs δ' => Good (m xs) δ' P) : Good (eCallD i m l ρ) δ P := by
  unfold eCallD
  rw [if_pos hi]
  exact Good.bind h
theorem Good.ret {e : EX} {P : Fl → Dice → Prop} (h : Good (e ρ) δ fun d δ' => P (.rt d) δ') : Good (sRet e ρ) δ P := by
  unfold sRet
  exact Good.bind (h.imp fun d δ' q => Good.pure q)
theorem Good.par3 {i j l : Nat} {a b c : EX} {Q : Fl → Dice → Prop} (hi : i < ρ.length) (hj : j < ρ.length) (hl : l < ρ.length) (h : Good (a ρ) δ fun x δ1 => Good (b ρ) δ1 fun y δ2 => Good (c ρ) δ2 fun z δ3 => Q (.nx (setV (setV (setV ρ i x) j y) l z)) δ3) : Good (sPar3 i j l a b c ρ) δ Q := by
  unfold sPar3
  refine Good.bind (h.imp fun x δ1 h1 => Good.bind (h1.imp fun y δ2 h2 => Good.bind (h2.imp fun z δ3 q => ?_)))
  show Good (if i < ρ.length ∧ j < ρ.length ∧ l < ρ.length then _ else _) δ3 Q
  rw [if_pos ⟨hi, hj, hl⟩]
  exact .pure q
theorem Good.ecomp2 {tg : Tg} {it : EL} {cond : EB} {elt : EX} {vs : List Nat} {P : D → Dice → Prop} (h : Good (it ρ) δ fun ds δ1 => Good (compL tg cond elt vs ds ρ) δ1 fun ys δ' => ys.length ≤ 16777216 ∧ P (.list ys) δ') : Good (eComp tg it cond elt vs ρ) δ P := by
  unfold eComp
  refine Good.bind (h.imp fun ds δ1 h1 => Good.bind (h1.imp fun ys δ' ⟨hl, q⟩ => ?_))
  show Good (if ys.length ≤ sizeLine then _ else _) δ' P
  rw [if_pos (by rw [sizeLine_eq]; exact hl)]
  exact .pure q
theorem Good.sif {c : EB} {a b : ST} {Q : Fl → Dice → Prop} (h : Good (c ρ) δ fun x δ' => Good ((if x = true then a else b) ρ) δ' Q) : Good (sIf c a b ρ) δ Q := by
  unfold sIf
  refine Good.bind (h.imp fun x δ' q => ?_)
  cases x
  · exact q
  · exact q
theorem Good.bnot {c : EB} {P : Bool → Dice → Prop} (h : Good (c ρ) δ fun x δ' => P (!x) δ') : Good (bNot c ρ) δ P := by
  unfold bNot
  exact Good.bind (h.imp fun x δ' q => Good.pure q)
theorem Good.asg {tg : Tg} {e : EX} {Q : Fl → Dice → Prop} (h : Good (e ρ) δ fun d δ' => ∃ ρ', bindT tg ρ d = some ρ' ∧ Q (.nx ρ') δ') : Good (sAsg tg e ρ) δ Q := by
  unfold sAsg
  refine Good.bind (h.imp fun d δ' ⟨ρ', e, q⟩ => ?_)
  show Good (M.bind (M.lift (bindT tg ρ d)) _) δ' Q
  rw [e]
  exact Good.pure q
end
/-- a comprehension with a test, with dice -/
theorem Good.compC {tg : Tg} {conds : EB} {elt : EX} {vs : List Nat} {ρ : En} {γ : Type} (enc : γ → D) (Inv : List γ → List D → Dice → Prop) : ∀ (xs : List γ) (acc : List D) (δ : Dice) (P : List D → Dice → Prop),
    (∀ x r acc δ, Inv (x :: r) acc δ → ∃ ρ1, bindT tg (clr ρ vs) (enc x) = some ρ1 ∧ Good (conds ρ1) δ fun c δ1 => (c = true → Good (elt ρ1) δ1 fun y δ' => Inv r (acc ++ [y]) δ') ∧ (c = false → Inv r acc δ1)) → (∀ ys δ, Inv [] (acc ++ ys) δ → P ys δ) → Inv xs acc δ →
    Good (compL tg conds elt vs (xs.map enc) ρ) δ P
  | [], acc, δ, P, h, q, hi => ⟨[], δ, rfl, q [] δ (by rw [List.append_nil]; exact hi)⟩
  | x :: xs, acc, δ, P, h, q, hi => by
    obtain ⟨ρ1, h1, c, δ0, e0, h2⟩ := h x xs acc δ hi
    have e0' : M.noErr (conds ρ1) δ = some (.ok c, δ0) := by unfold M.noErr; rw [e0]
    have head : compL tg conds elt vs ((x :: xs).map enc) ρ δ = (if c = true then M.bind (M.noErr (elt ρ1)) fun y => M.bind (compL tg conds elt vs (xs.map enc) ρ) fun ys => M.pure (y :: ys) else compL tg conds elt vs (xs.map enc) ρ) δ0 := by
      rw [List.map_cons]
      show M.bind (M.lift (bindT tg (clr ρ vs) (enc x))) _ δ = _
      rw [h1]
      show M.bind (M.noErr (conds ρ1)) _ δ = _
      unfold M.bind
      rw [e0']
    cases c with
    | false =>
      obtain ⟨ys, δ2, e2, h3⟩ := Good.compC enc Inv xs acc δ0 P h q (h2.2 rfl)
      refine ⟨ys, δ2, ?_, h3⟩
      rw [head, if_neg Bool.false_ne_true]
      exact e2
    | true =>
      obtain ⟨y, δ1, e1, h2⟩ := h2.1 rfl
      obtain ⟨ys, δ2, e2, h3⟩ := Good.compC enc Inv xs (acc ++ [y]) δ1 (fun ys δ' => P (y :: ys) δ') h (fun ys δ' hi' => q (y :: ys) δ' (by rw [List.append_assoc] at hi'; exact hi')) h2
      refine ⟨y :: ys, δ2, ?_, h3⟩
      rw [head, if_pos rfl]
      have e3 : M.noErr (elt ρ1) δ0 = some (.ok y, δ1) := by unfold M.noErr; rw [e1]
      unfold M.bind
      rw [e3]
      show (M.bind (compL tg conds elt vs (xs.map enc) ρ) fun ys => M.pure (y :: ys)) δ1 = _
      unfold M.bind
      rw [e2]; rfl
/-! ### zip; turns that may return -/
theorem zipD_map {α β : Type} (f : α → D) (g : β → D) : ∀ (xs : List α) (ys : List β), zipD (xs.map f) (ys.map g) = (xs.zip ys).map fun p => .tuple [f p.1, g p.2]
  | [], _ => rfl
  | _ :: _, [] => rfl
  | x :: xs, y :: ys => by
    rw [List.map_cons, List.map_cons, List.zip_cons_cons, List.map_cons, ← zipD_map f g xs ys]; rfl
theorem zipT_ok {a b : EX} {ρ : En} {xs ys : List D} (h1 : a ρ = M.pure (.tuple xs)) (h2 : b ρ = M.pure (.tuple ys)) : itZS a b ρ = M.pure (zipD xs ys) := by
  unfold itZS
  rw [h1, M.pure_bind, h2, M.pure_bind]; rfl
section
variable {tg : Tg} {vs : List Nat} {b : ST} {γ S : Type}
def scan (f : S → γ → Option S) : List γ → S → Option S
  | [], s => some s
  | x :: xs, s => match f s x with
    | none => none
    | some s' => scan f xs s'
/-- turns with a state, that may return d -/
theorem for_scan (enc : γ → D) (R : S → En) (f : S → γ → Option S) (d : D) (Inv : List γ → S → Prop) : ∀ (xs : List γ) (s : S) (ρ : En),
    (∀ x r s, Inv (x :: r) s → ∃ ρ1, bindT tg (R s) (enc x) = some ρ1 ∧ ((f s x = none ∧ b ρ1 = M.pure (.rt d)) ∨ ∃ s' ρ2, f s x = some s' ∧ b ρ1 = M.pure (.nx ρ2) ∧ clr ρ2 vs = R s' ∧ Inv r s')) → Inv xs s → clr ρ vs = R s →
    forL tg vs b (xs.map enc) ρ = match scan f xs s with
      | none => M.pure (.rt d)
      | some s' => M.pure (.nx (R s'))
  | [], s, ρ, _, _, hρ => by
    show M.pure (Fl.nx (clr ρ vs)) = _
    rw [hρ]; rfl
  | x :: xs, s, ρ, h, hi, hρ => by
    obtain ⟨ρ1, h1, h2⟩ := h x xs s hi
    rw [List.map_cons]
    unfold scan
    rcases h2 with ⟨e, h3⟩ | ⟨s', ρ2, e, h3, h4, h5⟩
    · rw [for_rt (by rw [hρ]; exact h1) h3, e]
    · rw [for_nx (by rw [hρ]; exact h1) h3, e]
      exact for_scan enc R f d Inv xs s' ρ2 h h5 h4
end
theorem lenT_ok {e : EX} {ρ : En} {ds : List D} (h : e ρ = M.pure (.tuple ds)) : eCallB dLen (lCons e lNil) ρ = M.pure (.int (ds.length : Nat)) := callB_ok (one_ok h) rfl
theorem lenL_ok {e : EX} {ρ : En} {ds : List D} (h : e ρ = M.pure (.list ds)) : eCallB dLen (lCons e lNil) ρ = M.pure (.int (ds.length : Nat)) := callB_ok (one_ok h) rfl
/-! ### increasing lists of naturals -/
abbrev Inc (l : List Nat) : Prop := l.Pairwise (· < ·)
theorem Inc.nodup {l : List Nat} (h : Inc l) : l.Nodup := h.imp fun {a b} h => by omega
theorem inc_one {l m : List Nat} (h1 : Inc l) (h2 : Inc m) (h : ∀ k, k ∈ l ↔ k ∈ m) : l = m :=
  sorted_uniq (R := (· < ·)) (fun a b h h' => by omega) h1 h2 ((List.perm_ext_iff_of_nodup h1.nodup h2.nodup).mpr h)
theorem inc_filter (n : Nat) (p : Nat → Bool) : Inc ((List.range n).filter p) := List.pairwise_lt_range.sublist List.filter_sublist
theorem mem_filter_range {n k : Nat} {p : Nat → Bool} : k ∈ (List.range n).filter p ↔ k < n ∧ p k = true := by rw [List.mem_filter, List.mem_range]
/-- in whole numbers -/
theorem sortI_nat {l m : List Nat} (hp : l.Perm m) (hm : Inc m) : sortI (l.map fun k : Nat => (k : Int)) = m.map fun k : Nat => (k : Int) := by
  have p1 : (sortI (l.map fun k : Nat => (k : Int))).Perm (m.map fun k : Nat => (k : Int)) := (sortI_perm _).trans (hp.map _)
  refine sorted_uniq (R := (· ≤ ·)) (fun a b h h' => Int.le_antisymm h h') (sortI_sorted _) (List.pairwise_map.mpr (hm.imp fun {a b} h => by omega)) p1
theorem sset_nat {l : List Nat} (h : Inc l) : sset (l.map fun k : Nat => (k : Int)) = l.map fun k : Nat => (k : Int) :=
  inc_uniq (sset_inc _) (List.pairwise_map.mpr (h.imp fun {a b} h => by omega)) fun k => sset_mem k _
/-! ### among ints -/
theorem any_int (i : Int) (ns : List Int) : ((ns.map PyData.int).any fun z => PyData.eqv z (.int i)) = decide (i ∈ ns) := by
  rw [Bool.eq_iff_iff, List.any_eq_true, decide_eq_true_eq]
  constructor
  · rintro ⟨d, hd, e⟩
    obtain ⟨j, hj, rfl⟩ := List.mem_map.mp hd
    rw [← int_inj _ _ ((eqv_plain 0 (.int j) (.int i) 0 rfl rfl).mp e)]
    exact hj
  · intro h
    exact ⟨_, List.mem_map.mpr ⟨i, h, rfl⟩, (eqv_plain 0 (.int i) (.int i) 0 rfl rfl).mpr rfl⟩
theorem flat_int (ns : List Int) : (ns.map PyData.int).all flatD = true := by
  rw [List.all_eq_true]
  intro d hd
  obtain ⟨j, _, rfl⟩ := List.mem_map.mp hd
  rfl
theorem in_int {i : Int} {ns : List Int} : dIn (.int i) (.tuple (ns.map PyData.int)) = some (.bool (decide (i ∈ ns))) := by
  show (if (flatD (.int i) && (ns.map PyData.int).all flatD) = true then _ else _) = _
  rw [if_pos (show (flatD (.int i) && (ns.map PyData.int).all flatD) = true by rw [flat_int]; rfl), any_int]
end Lay

set_option Elab.async false
set_option linter.all false
set_option maxRecDepth 100000
set_option maxHeartbeats 4000000
/-! Rules for k05: zip of a tuple and a list -/
namespace Lay
open PySem PySem.Spec PyProof.Rows L2

/-- the tuple at a, the list at b, n turns -/
def ItzM (K : PySem.W.Frag) (a b : Addr) (n : Nat) : It :=
  ⟨fun i H => i < n ∧ ∃ (xs ys : List V) (x y : V), SqT K H a xs ∧ SqL K H b ys ∧ xs[i]? = some x ∧ ys[i]? = some y,
    fun i H v H' => ∃ T x y, v = .ref T ∧ H T = none ∧ H' = upd H T (.tup [x, y]) ∧ (∀ xs, SqT K H a xs → xs[i]? = some x) ∧ (∀ ys, SqL K H b ys → ys[i]? = some y),
    fun i H => n ≤ i ∧ ∃ xs ys : List V, SqT K H a xs ∧ SqL K H b ys ∧ min xs.length ys.length = n⟩
theorem sepM {z ti to i1 i2 a b : Addr} (D : ZipApart z ti to i1 i2 a b) : ZipSep2 z ti to i1 i2 [i1, a] [i2, b] where
  TIz := D.TIz
  TOz := D.TOz
  TITO := D.TITO
  TIi1 := D.TIi1
  mem1 := by simp
  zf1 := by simp [D.i1z.symm, D.l1z.symm]
  Tf1 := by simp [D.TOi1, D.l1TO.symm]
  TIi2 := D.TIi2
  mem2 := by simp
  zf2 := by simp [D.i2z.symm, D.l2z.symm]
  Tf2 := by simp [D.TOi2, D.l2TO.symm]
  sep1_2 := by simp [D.i12, D.l2i1.symm]
  sep2_1 := by simp [D.i12.symm, D.l1i2.symm]
theorem turn_zipM {P : Program} {w : World} {K : PySem.W.Frag} {elts : List Expr} {kk n : Nat} {tpos : Pos} {a b z ti to i1 i2 : Addr} (D : ZipApart z ti to i1 i2 a b) :
    Turn P w K (.Tuple elts kk tpos) (ItzM K a b n) [z, ti, to, i1, i2] z (fun i h => (IsZip h z ti to .none ∧ IsPair h ti (.ref i1) (.ref i2) ∧ (∃ x y, IsPair h to x y) ∧ h.IsTupleIter i1 a i ∧ h.IsListIter i2 b i) ∧ i ≤ n) where
  mem := by simp
  obj := fun i h st c hc => by
    obtain ⟨⟨gz, gt, ⟨x, y, go⟩, ⟨o1, e1, _, d1⟩, ⟨o2, e2, _, d2⟩⟩, _⟩ := st
    have cs : c = z ∨ c = ti ∨ c = to ∨ c = i1 ∨ c = i2 := by simpa using hc
    rcases cs with rfl | rfl | rfl | rfl | rfl
    · exact ⟨_, gz, fun v k => nomatch k⟩
    · exact ⟨_, gt, fun v k => nomatch k⟩
    · exact ⟨_, go, fun v k => nomatch k⟩
    · exact ⟨o1, e1, fun v k => by rw [d1] at k; cases k⟩
    · exact ⟨o2, e2, fun v k => by rw [d2] at k; cases k⟩
  keep := fun i h h' st k => by
    obtain ⟨⟨gz, gt, ⟨x, y, go⟩, h1, h2⟩, hi⟩ := st
    exact ⟨⟨k z (by simp) _ gz, k ti (by simp) _ gt, ⟨x, y, k to (by simp) _ go⟩, h1.at fun o m => k i1 (by simp) o m, h2.at fun o m => k i2 (by simp) o m⟩, hi⟩
  item := by
    intro X hP hw hK hc i pins s σ H E I hf st hg
    subst hP hw hK
    obtain ⟨⟨gz, gt, ⟨x0, y0, go⟩, h1, h2⟩, hi⟩ := st
    obtain ⟨hlt, xs, ys, x, y, qx, qy, ex, ey⟩ := hg
    obtain ⟨us, rv, p1, _⟩ := I.tuple qx
    obtain ⟨ws, rw2, p2, _⟩ := I.list qy
    obtain ⟨u, hu, ru⟩ := rv.get ex
    obtain ⟨v, hv, rv2⟩ := rw2.get ey
    have zlt : z < s.heap.objs.size := Heap.lt_size gz
    have hh : X.A.in1.handled = none := by simp [I.ok.hd hc]
    refine wpAny_pyNext_zipD2_item (i := i) (sepM D) (Draws.tuple hh i1 a D.l1i1 us.toArray) (Draws.list hh i2 b D.l2i2 ws.toArray) gz gt go ⟨h1, p1⟩ ⟨h2, p2.isList⟩ (by simpa using (List.getElem?_eq_some_iff.mp hu).1) (by simpa using (List.getElem?_eq_some_iff.mp hv).1) fun x1 x2 h' tk e1 e2 gz' go' s1 s2 gT hsz hk => ?_
    have f1 : x1 = u := by rw [List.getElem?_toArray, hu] at e1; exact (Option.some.inj e1).symm
    have f2 : x2 = v := by rw [List.getElem?_toArray, hv] at e2; exact (Option.some.inj e2).symm
    subst f1 f2
    refine ⟨_, rfl, wpAny_letOwnedTupleGo_zip (s := { s with heap := h', toks := tk }) gz' fun h'' gz'' sb => ?_⟩
    have gT2 : h''.get? s.heap.objs.size = some { cls := .type "tuple", data := .seq #[x1, x2] } := (sb.2 _ (Nat.ne_of_gt zlt)).trans gT
    have new : ObjOk X.prog X.w (upd H s.heap.objs.size (.tup [x, y])) h'' s.heap.objs.size (.tup [x, y]) := ⟨by show 2 ≤ sizeLine; decide, [x1, x2], .cons ru (.cons rv2 .nil), ⟨_, gT2, rfl, _, rfl⟩⟩
    have J : Inv X pins σ (upd H s.heap.objs.size (.tup [x, y])) { s with heap := h'', toks := tk } :=
      I.turnedNew (t' := tk) (ch := [z, ti, to, i1, i2]) (fun c o hb m => (sb.2 c (fun k => hb (by simp [k]))).trans (hk c o (fun k => hb (by simp [k])) (fun k => hb (by simp [k])) (fun k => hb (by simp [k])) (fun k => hb (by simp [k])) m)) hf (Nat.le_refl _) new
    refine ⟨.ref s.heap.objs.size, _, J, rfl, ⟨_, x, y, rfl, I.hok.fresh (Nat.le_refl _), rfl, fun l hl => by rw [I.tuple_inj hl qx]; exact ex, fun l hl => by rw [I.list_inj hl qy]; exact ey⟩, ⟨⟨gz'', ?_, ⟨x1, x2, ?_⟩, ?_, ?_⟩, hlt⟩, fun c hcm => ?_⟩
    · exact (sb.2 _ D.TIz).trans (hk _ _ D.TIz D.TITO D.TIi1 D.TIi2 gt)
    · exact (sb.2 _ D.TOz).trans go'
    · exact s1.1.at fun o m => (sb.2 _ D.i1z).trans m
    · exact s2.1.at fun o m => (sb.2 _ D.i2z).trans m
    · have lt : c < s.heap.objs.size := by
        have cs : c = z ∨ c = ti ∨ c = to ∨ c = i1 ∨ c = i2 := by simpa using hcm
        rcases cs with rfl | rfl | rfl | rfl | rfl
        · exact zlt
        · exact Heap.lt_size gt
        · exact Heap.lt_size go
        · obtain ⟨_, k, _⟩ := h1; exact Heap.lt_size k
        · obtain ⟨_, k, _⟩ := h2; exact Heap.lt_size k
      rw [upd_ne (Nat.ne_of_lt lt)]
      exact (hf c hcm).1
  done := by
    intro X hP hw hK hc i pins s σ H E I hf st hg
    subst hP hw hK
    obtain ⟨⟨gz, gt, ⟨x0, y0, go⟩, h1, h2⟩, hi⟩ := st
    obtain ⟨hn, xs, ys, qx, qy, hm⟩ := hg
    obtain ⟨us, rv, p1, _⟩ := I.tuple qx
    obtain ⟨ws, rw2, p2, _⟩ := I.list qy
    have l1 := rv.length
    have l2 := rw2.length
    have z1 : us.toArray.size = xs.length := by simpa using l1.symm
    have z2 : ws.toArray.size = ys.length := by simpa using l2.symm
    have hh : X.A.in1.handled = none := by simp [I.ok.hd hc]
    exact wpAny_pyNext_zipD2_end (i := i) (sepM D) (Draws.tuple hh i1 a D.l1i1 us.toArray) (Draws.list hh i2 b D.l2i2 ws.toArray) gz gt go ⟨h1, p1⟩ ⟨h2, p2.isList⟩ (by omega) (by omega) (by omega) fun h' tk hk => ⟨rfl, I.turnedL (t' := tk) (ch := [z, ti, to, i1, i2]) (fun c o hb m =>
      hk c o (fun k => hb (by simp [k])) (fun k => hb (by simp [k])) (fun k => hb (by simp [k])) (fun k => hb (by simp [k])) m) hf⟩
  self := fun A i s Q E st h => wpAny_pyIter_zip st.1.1 h
/-! ### the zip object -/
abbrev zm1 (h : Heap) (a : Addr) : Heap := h.push { cls := .type "tuple_iterator", data := .fields #[.ref a, .int 0 0] }
abbrev zm2 (h : Heap) (a b : Addr) : Heap := (zm1 h a).push { cls := .type "list_iterator", data := .fields #[.ref b, .int 0 0] }
abbrev zm3 (h : Heap) (a b : Addr) : Heap := (zm2 h a b).push { cls := .type "tuple", data := .seq #[.ref h.objs.size, .ref (zm1 h a).objs.size] }
abbrev zm4 (h : Heap) (a b : Addr) : Heap := (zm3 h a b).push { cls := .type "tuple", data := .seq #[.none, .none] }
abbrev zm5 (h : Heap) (a b : Addr) : Heap := (zm4 h a b).push { cls := .type "zip", data := .fields #[.none, .bool false, .bool false, .ref (zm2 h a b).objs.size, .ref (zm3 h a b).objs.size] }
theorem meets_zm (a b : Addr) (xs ys : Array Value) :
    Meets (Builtin.«zip.__new__» ⟨[.type "zip", .ref a, .ref b], []⟩) (fun _ R s => s.heap.IsTuple a xs ∧ s.heap.IsList b ys ∧
      R (.ok (.ret (.ref (zm4 s.heap a b).objs.size))) { s with heap := zm5 s.heap a b }) :=
  .of_wp fun prog w A R s h => by
    obtain ⟨hp, g, d, tk, os⟩ := s; obtain ⟨h1, h2, h⟩ := h
    have isz := PySem.sub_zip
    have t1 : Heap.IsTuple (Shared.heap ⟨hp, g, d, tk, os⟩) a xs := h1
    have t2 : Heap.IsList (Shared.heap ⟨hp.push { cls := .type "tuple_iterator", data := .fields #[.ref a, .int 0 0] }, g, d, tk, os⟩) b ys := Heap.IsList.push h2 _
    wp_walk using wpAny_pyIter_tuple t1, wpAny_pyIter_list t2
    exact ⟨_, rfl, h⟩
theorem call_zipM {prog : Program} {w : World} {A : Around} {E : Value → Shared → Prop} {s : Shared} {a b : Addr} {xs ys : Array Value} {Q : Value → Shared → Prop} (ha : s.heap.IsTuple a xs) (hb : s.heap.IsList b ys)
    (h : ∀ h', IsZip h' (s.heap.objs.size + 4) (s.heap.objs.size + 2) (s.heap.objs.size + 3) .none ∧ IsPair h' (s.heap.objs.size + 2) (.ref s.heap.objs.size) (.ref (s.heap.objs.size + 1)) ∧
      IsPair h' (s.heap.objs.size + 3) .none .none ∧ h'.IsTupleIter s.heap.objs.size a 0 ∧ h'.IsListIter (s.heap.objs.size + 1) b 0 →
      (∀ c o, s.heap.get? c = some o → h'.get? c = some o) → Q (.ref (s.heap.objs.size + 4)) { s with heap := h' }) :
    wpAny (model prog w) A (call (.type "zip") [.ref a, .ref b]) Q E s := by
  refine callType_new F.called_zip (by decide) (F.typeCall_zip_2 _ _) (F.newCall_zip_2 _ _) (fun obj => F.args_object_init_3 obj _ _) F.entry_zip_new (meets_zm a b xs ys) ⟨ha, hb, ?_⟩
  have s1 : (zm1 s.heap a).objs.size = s.heap.objs.size + 1 := Heap.size_push ..
  have s2 : (zm2 s.heap a b).objs.size = s.heap.objs.size + 2 := by rw [Heap.size_push, s1]
  have s3 : (zm3 s.heap a b).objs.size = s.heap.objs.size + 3 := by rw [Heap.size_push, s2]
  have s4 : (zm4 s.heap a b).objs.size = s.heap.objs.size + 4 := by rw [Heap.size_push, s3]
  have k5 : (zm5 s.heap a b).get? (zm4 s.heap a b).objs.size = some _ := Heap.get?_push_size _ rfl
  have k4 : (zm5 s.heap a b).get? (zm3 s.heap a b).objs.size = some _ := Heap.get?_push_of_some _ (Heap.get?_push_size _ rfl)
  have k3 : (zm5 s.heap a b).get? (zm2 s.heap a b).objs.size = some _ := Heap.get?_push_of_some _ (Heap.get?_push_of_some _ (Heap.get?_push_size _ rfl))
  have k2 : (zm5 s.heap a b).get? (zm1 s.heap a).objs.size = some _ := Heap.get?_push_of_some _ (Heap.get?_push_of_some _ (Heap.get?_push_of_some _ (Heap.get?_push_size _ rfl)))
  have k1 : (zm5 s.heap a b).get? s.heap.objs.size = some _ := Heap.get?_push_of_some _ (Heap.get?_push_of_some _ (Heap.get?_push_of_some _ (Heap.get?_push_of_some _ (Heap.get?_push_size _ rfl))))
  show _ ∧ _
  rw [s2, s3, s4] at k5
  rw [s1, s2] at k3
  rw [s3] at k4
  rw [s1] at k2
  rw [s4]
  exact ⟨⟨_, k5, rfl⟩, h _ ⟨k5, k3, k4, ⟨_, k1, rfl, rfl⟩, ⟨_, k2, rfl, rfl⟩⟩ fun c o m => Heap.get?_push_of_some _ (Heap.get?_push_of_some _ (Heap.get?_push_of_some _ (Heap.get?_push_of_some _ (Heap.get?_push_of_some _ m))))⟩
def iZipM (K : PySem.W.Frag) (ta : TA) : TI := fun σ H R => ta σ H fun vs H1 => ∃ a b xs ys, vs = [.ref a, .ref b] ∧ SqT K H1 a xs ∧ SqL K H1 b ys ∧ R (ItzM K a b (min xs.length ys.length)) H1
theorem pi_zipM {X : Cx} {e e2 : Expr} {ta : TA} {p pos tpos : Pos} {elts : List Expr} {kk : Nat} (hg : Gl X "zip") (hm : X.mg "zip" = none) (ha : PA X [e, e2] ta)
    (hs : starEach [e, e2] X.env = (false, eval e X.env) :: starEach [e2] X.env := by rfl) (hpl : (backTo pos (starEach [e2] X.env)).any (·.1) = false := by rfl) : PI X (.Tuple elts kk tpos) (.Call (.Name "zip" p) [e, e2] [] pos) (iZipM X.K ta) := by
  refine ⟨fun pins s σ H R I h => Call_ (ld_blt I hg hm PyProof.Rows.boot_zip (PyProof.Rows.callWith_type1 (thn (ha.run pos pins s σ H _ I h) fun us s1 ⟨vs, H1, I1, r1, q1⟩ => ?_) hs hpl))⟩
  obtain ⟨a, b, xs, ys, rfl, qx, qy, q⟩ := q1
  obtain ⟨u1, u2, rfl, r, r'⟩ := vals2 r1
  obtain rfl : u1 = Value.ref a := r
  obtain rfl : u2 = Value.ref b := r'
  have fresh5 : ∀ c, c ∈ [s1.heap.objs.size + 4, s1.heap.objs.size + 2, s1.heap.objs.size + 3, s1.heap.objs.size, s1.heap.objs.size + 1] → FpOk X pins H1 c := fun c hcm => by
    have hle : s1.heap.objs.size ≤ c := by
      simp only [List.mem_cons, List.not_mem_nil, or_false] at hcm
      rcases hcm with rfl | rfl | rfl | rfl | rfl <;> first | exact Nat.le_refl _ | exact Nat.le_add_right _ _
    exact I1.fpOk hle (I1.hok.fresh hle)
  obtain ⟨us, rv, p1, _⟩ := I1.tuple qx
  obtain ⟨ws, rw2, p2, _⟩ := I1.list qy
  have p1' : s1.heap.IsTuple a us.toArray := p1
  obtain ⟨o1, ho1, _⟩ := id p1'
  refine call_zipM p1' p2.isList fun h' st hk => wpAny_pyIter_zip st.1 ?_
  have I2 : Inv X pins σ H1 { s1 with heap := h' } := I1.kept (t' := s1.toks) hk
  exact ⟨s1.heap.objs.size + 4, [s1.heap.objs.size + 4, s1.heap.objs.size + 2, s1.heap.objs.size + 3, s1.heap.objs.size, s1.heap.objs.size + 1], _, _, H1, rfl, I2, turn_zipM (PySem.W.ktu_apart s1.heap.objs.size a b (Heap.lt_size ho1) p2.lt), ⟨⟨st.1, st.2.1, ⟨_, _, st.2.2.1⟩, st.2.2.2.1, st.2.2.2.2⟩, Nat.zero_le _⟩, fresh5, q⟩
section
variable {C : Ct} {X : Cx} {ta tb : TE} {fa fb : EX}
theorem yields_zipM {K : PySem.W.Frag} {a b : Addr} {vs ws : List V} {ds es : List D} {F1 : Hp} (h : F1 a = some (.tup vs)) (r : RpA F1 vs ds) (h' : F1 b = some (.lst ws)) (r' : RpA F1 ws es) : Yields C (ItzM K a b (min vs.length ws.length)) (zipD ds es) F1 := fun i F H δ x hs => by
  have hH := hs.sub _ _ (x _ _ h)
  have hH' := hs.sub _ _ (x _ _ h')
  have l1 := r.length
  have l2 := r'.length
  refine ⟨fun hi => ?_, fun hi => ⟨by rw [zipD_len] at hi; omega, vs, ws, SqT.of hH, SqL.of hH', rfl⟩⟩
  rw [zipD_len] at hi
  have i1 : i < ds.length := by omega
  have i2 : i < es.length := by omega
  obtain ⟨v, e1, rv⟩ := r.get (List.getElem?_eq_getElem i1)
  obtain ⟨u, e2, ru⟩ := r'.get (List.getElem?_eq_getElem i2)
  refine ⟨⟨by omega, vs, ws, v, u, SqT.of hH, SqL.of hH', e1, e2⟩, fun y H' hy => ?_⟩
  obtain ⟨T, p, q, rfl, n, rfl, q1, q2⟩ := hy
  have z1 := q1 vs (SqT.of hH)
  have z2 := q2 ws (SqL.of hH')
  rw [e1] at z1; rw [e2] at z2
  cases z1; cases z2
  obtain ⟨F', a1, a2, a3⟩ := zip_item (C := C) hs n (rv.mono x) (ru.mono x)
  exact ⟨_, F', zipD_get _ _ i _ _ (List.getElem?_eq_getElem i1) (List.getElem?_eq_getElem i2), a1, a2, a3⟩
/-- zip of a tuple and a list -/
def itZM (a b : EX) : EL := fun ρ => M.bind (a ρ) fun x => M.bind (b ρ) fun y => M.lift (match x, y with
  | .tuple ds, .list es => some (zipD ds es)
  | _, _ => none)
theorem evi_zipM {K : PySem.W.Frag} (ha : EvE C ta fa) (hb : EvE C tb fb) : EvI C (iZipM K (tCons ta (tCons tb tNil))) (itZM fa fb) := fun σ ρ F H δ Q r R e p =>
  ha.then R e p.err fun d δ1 v F1 H1 e1 R1 s1 rp => hb.then R1 e1 p.err fun d2 δ2 v2 F2 H2 e2 R2 s2 rp2 => by
    obtain ⟨z, e3, rfl⟩ := M.lift_some e2
    have rp' := rp.mono s2.ex
    cases rp' with
    | @tup a vs ds h1 r1 =>
      cases rp2 with
      | @lst b ws es h2 r2 =>
        cases (Option.some.inj e3)
        exact ⟨a, b, vs, ws, rfl, SqT.of (R2.hs.sub _ _ h1), SqL.of (R2.hs.sub _ _ h2), p _ F2 H2 R2.hs (s1.trans s2) (yields_zipM h1 r1 h2 r2)⟩
      | _ => cases e3
    | _ => cases e3
theorem ji_zipM {a b : Expr} {p pos tpos : Pos} {elts : List Expr} {kk : Nat} (hm : X.mg "zip" = none) (ha : JE C X a fa) (hb : JE C X b fb) (hg : Gl X "zip" := by rfl) (hs : starEach [a, b] X.env = (false, eval a X.env) :: starEach [b] X.env := by rfl) (hs2 : starEach [b] X.env = (false, eval b X.env) :: starEach [] X.env := by rfl) (hpl : (backTo pos (starEach [b] X.env)).any (·.1) = false := by rfl) :
    JI C X (.Tuple elts kk tpos) (.Call (.Name "zip" p) [a, b] [] pos) (itZM fa fb) := ji (pi_zipM hg hm (pa_cons ha (pa_cons hb pa_nil hs2) hs) hs hpl) (evi_zipM ev_of ev_of)
end
end Lay

set_option Elab.async false
set_option linter.all false
set_option maxRecDepth 100000
set_option maxHeartbeats 4000000
/-! Rules for k05: the least of tuples; tuples of ints sorted, the first of them empty; how many of a set -/
namespace Lay
open PySem PySem.Spec PyProof.Rows L2

/-! ### the least of alike data -/
def alikeOk (ds : List D) : Bool := (ds.all fun x => ds.all fun y => PySem.W.alike x y) && ds.all (fun x => !isNone x) && decide (PyData.depthAll ds ≤ 60)
theorem alikeOk_all {ds : List D} (h : alikeOk ds = true) : PySem.W.AlikeAll ds ∧ PyData.depthAll ds ≤ 60 := by
  unfold alikeOk at h
  rw [Bool.and_eq_true, Bool.and_eq_true, List.all_eq_true, List.all_eq_true, decide_eq_true_eq] at h
  refine ⟨⟨fun x hx y hy => List.all_eq_true.mp (h.1.1 x hx) y hy, fun x hx e => ?_⟩, h.2⟩
  have := h.1.2 x hx
  rw [e] at this
  cases this
def rMinA (K : PySem.W.Frag) : List V → Hp → VK → Prop := fun vs H Q => ∃ (a : Addr) (xs : List V) (d : D) (ds : List D), vs = [V.ref a] ∧ SqL K H a xs ∧ DpAll K H xs (d :: ds) ∧ PySem.W.AlikeAll (d :: ds) ∧ PyData.depthAll (d :: ds) ≤ 60 ∧
  ∀ (i : Nat) (v : V), xs[i]? = some v → (d :: ds)[i]? = some (PySem.W.minD d ds) → Q v H
theorem cr_minA {X : Cx} (hu : X.A.units + 64 < cLine) (hc : X.calm = true) : CallR X (.builtin "min") (rMinA X.K) := by
  intro pins s σ H vs us Q I r h
  obtain ⟨a, xs, d, ds, rfl, hs, dp, hal, hd, q⟩ := h
  obtain ⟨its, rv, hl, _⟩ := I.list hs
  rw [Vals.ref1 r]
  obtain ⟨as, hr⟩ := Dp.readsAll I (d :: ds) xs its dp rv
  refine PySem.W.min_list_data (I.ok.hd hc) hl.isList (by simpa using hr) hal (by omega) fun i v h' tk bs hv rd hk => ?_
  have hv' : its[i]? = some v := by simpa using hv
  have hi : i < xs.length := by rw [rv.length]; exact (List.getElem?_eq_some_iff.mp hv').1
  obtain ⟨u, hu2, ru⟩ := rv.get (List.getElem?_eq_getElem hi)
  rw [hv'] at hu2
  cases hu2
  obtain ⟨cs, r1, hlt, _, _⟩ := PySem.W.readsAll_at hr i v hv'
  have e : (d :: ds).getD i .none = PySem.W.minD d ds := ((PySem.W.reads_keeps hk r1).unique _ _ rd).1
  refine ⟨xs[i], H, I.kept (t' := tk) hk, ru, q i _ (List.getElem?_eq_getElem hi) ?_⟩
  rw [List.getElem?_eq_getElem hlt, ← e, List.getD_eq_getElem?_getD, List.getElem?_eq_getElem hlt]; rfl
def dMinA : List D → Option D
  | [.list (d :: ds)] => if alikeOk (d :: ds) = true then some (PySem.W.minD d ds) else none
  | _ => none
section
variable {C : Ct}
theorem raw_minA {K : PySem.W.Frag} : RawL C (rMinA K) dMinA := fun F H δ vs ds z Q hs r o p => by
  unfold dMinA at o
  split at o
  · rename_i d es
    split at o
    · rename_i hk
      cases (Option.some.inj o)
      obtain ⟨a, xs, rfl, h1, h2⟩ := one_list r
      obtain ⟨k1, k2⟩ := alikeOk_all hk
      refine ⟨a, xs, d, es, rfl, SqL.of (hs.sub _ _ h1), h2.dp hs.sub, k1, k2, fun i v hv hd => ?_⟩
      obtain ⟨v', hv', rp⟩ := h2.get hd
      rw [hv] at hv'
      cases hv'
      exact p.val hs rp
    · cases o
  · cases o
end
/-! ### how many of a set -/
def tLenSet (K : PySem.W.Frag) (ta : TE) : TE := fun σ H Q => ta σ H fun x H1 => ∃ l ns, x = V.ref l ∧ SqT K H1 l (ns.map V.int) ∧ ns.length + 1 < 4096 ∧ Q (.int (sset ns).length) H1
theorem setR_len {X : Cx} {pins : List (Addr × Obj)} {σ : L2.St} {H : Hp} {s : Shared} {b : Addr} {ns : List Int} {c : Nat} {Q : VK} (I : Inv X pins σ H s) (R : SetR X.w s.heap b (fun j => decide (j ∈ ns)) c) (hb : (sset ns).length < 4096)
    (q1 : Q (.int (sset ns).length) H) : wpAny (model X.prog X.w) X.A (call (.builtin "len") [.ref b]) (EP X pins σ Q) X.xe s := by
  have hcnt := setR_count R
  obtain ⟨o, es, ep, t, ho, hex, hd, _, _, _, _, hf, hn, _⟩ := R
  have hz : (es.size : Int) = ((sset ns).length : Nat) := by omega
  refine call_len_set ho hex hd hf (by omega) ?_
  rw [hz]
  exact ⟨.int _, H, I.kept (t' := s.toks + 1 + 1) fun _ _ e => e, ⟨_, rfl⟩, q1⟩
section
variable {X : Cx} {a : Expr} {ta : TE} {p p2 q pos : Pos}
theorem sset_len : ∀ ns : List Int, (sset ns).length ≤ ns.length
  | [] => Nat.le_refl _
  | x :: ns => by
    have ih := sset_len ns
    have key : ∀ l : List Int, (insS x l).length ≤ l.length + 1 := fun l => by
      induction l with
      | nil => exact Nat.le_refl _
      | cons y l ih =>
        unfold insS
        split
        · exact Nat.le_refl _
        · split
          · exact Nat.le_succ _
          · rw [List.length_cons, List.length_cons]; omega
    show (insS x (sset ns)).length ≤ ns.length + 1
    have := key (sset ns)
    omega
theorem pe_lenSet (hc : X.calm = true) (hg : Gl X "len") (hm : X.mg "len" = none) (hg2 : Gl X "set") (hm2 : X.mg "set" = none) (ha : PE X a ta)
    (na : starEach [a] X.env = (false, eval a X.env) :: starEach [] X.env := by rfl) : PE X (.Call (.Name "len" p) [.Call (.Name "set" p2) [a] [] q] [] pos) (tLenSet X.K ta) := by
  refine ⟨fun pins s σ H Q I h => Call_ (ld_blt I hg hm Boot.«len» (PyProof.Rows.callWith_builtin1 (args_cons ?_ rfl) rfl rfl))⟩
  refine Call_ (ld_blt I hg2 hm2 PyProof.Rows.boot_set (PyProof.Rows.callWith_type1 (args_cons (thn (ha.run pins s σ H _ I h) fun v s1 ⟨x, H1, I1, r1, q1⟩ => args_nil ?_) na) na rfl))
  obtain ⟨l, ns, rfl, hq, b1, q1⟩ := q1
  cases r1
  obtain ⟨its, rv, pl, hz⟩ := I1.tuple hq
  refine call_set_tupI ns (I1.ok.hd hc) pl (by simpa using rv.ints) b1 fun h' tk c R _ hk => args_nil ?_
  have I2 : Inv X pins σ H1 { s1 with heap := h', toks := tk } := I1.kept hk
  exact setR_len (s := { s1 with heap := h', toks := tk }) I2 R (by have := sset_len ns; omega) q1
end
def eLenSet (a : EX) : EX := fun ρ => M.bind (a ρ) fun x => M.lift (match x with
  | .tuple ds => (intsD ds).bind fun ns => if ns.length + 1 < 4096 then some (.int (sset ns).length) else none
  | _ => none)
section
variable {C : Ct} {X : Cx}
theorem ev_lenSet {K : PySem.W.Frag} {ta : TE} {fa : EX} (ha : EvE C ta fa) : EvE C (tLenSet K ta) (eLenSet fa) := fun σ ρ F H δ Q r R e p =>
  ha.then R e p.err fun d δ1 v F1 H1 e1 R1 s1 rp => by
    obtain ⟨z, e2, rfl⟩ := M.lift_some e1
    cases rp with
    | @tup a xs ds h1 r1 =>
      obtain ⟨ns, e3, e4⟩ := Option.bind_eq_some_iff.mp e2
      split at e4
      · rename_i hk
        cases (Option.some.inj e4)
        have e5 := ints_rp r1 e3
        subst e5
        exact ⟨a, ns, rfl, SqT.of (R1.hs.sub _ _ h1), hk, (p.mono s1).val R1.hs (.int _)⟩
      · cases e4
    | _ => cases e2
theorem je_lenSet {a : Expr} {fa : EX} {p p2 q pos : Pos} (hc : X.calm = true) (hm : X.mg "len" = none) (hm2 : X.mg "set" = none) (ha : JE C X a fa) (hg : Gl X "len" := by rfl) (hg2 : Gl X "set" := by rfl)
    (na : starEach [a] X.env = (false, eval a X.env) :: starEach [] X.env := by rfl) : JE C X (.Call (.Name "len" p) [.Call (.Name "set" p2) [a] [] q] [] pos) (eLenSet fa) := je (pe_lenSet hc hg hm hg2 hm2 ha na) (ev_lenSet ev_of)
end
/-! ### tuples of ints, by the first difference -/
def ltL (a b : List Int) : Bool := PySem.W.rowLt (a.map .int) (b.map .int)
theorem ltL_iff {a b : List Int} : ltL a b = decide (a < b) := PySem.W.dataLt_ints a b
theorem swoL : SrtO.Swo ltL := by
  refine ⟨fun x y h => ?_, fun x y z h1 h2 => ?_⟩
  · cases q : ltL y x with
    | false => rfl
    | true =>
      have := lex_trans (O := itemOrd) _ _ _ h q
      rw [lex_irrefl] at this
      cases this
  · cases q : ltL z x with
    | false => rfl
    | true =>
      rcases lex_negTrans (O := itemOrd) _ (PySem.W.keyToksAll (y.map .int)) _ q with k | k
      · have k : ltL z y = true := k
        rw [h2] at k; cases k
      · have k : ltL y x = true := k
        rw [h1] at k; cases k
theorem ltL_anti {a b : List Int} (h1 : ltL a b = false) (h2 : ltL b a = false) : a = b := by
  rw [ltL_iff, decide_eq_false_iff_not] at h1 h2
  exact List.le_antisymm h2 h1
def insL (x : List Int) : List (List Int) → List (List Int)
  | [] => [x]
  | y :: ys => if ltL y x = true then y :: insL x ys else x :: y :: ys
def sortL : List (List Int) → List (List Int)
  | [] => []
  | x :: xs => insL x (sortL xs)
theorem insL_perm (x : List Int) : ∀ l, (insL x l).Perm (x :: l)
  | [] => .refl _
  | y :: ys => by
    unfold insL
    split
    · exact ((insL_perm x ys).cons y).trans (.swap x y ys)
    · exact .refl _
theorem sortL_perm : ∀ l, (sortL l).Perm l
  | [] => .refl _
  | x :: xs => (insL_perm x _).trans ((sortL_perm xs).cons x)
abbrev SrtL (l : List (List Int)) : Prop := l.Pairwise fun a b => ltL b a = false
theorem insL_sorted (x : List Int) : ∀ l, SrtL l → SrtL (insL x l)
  | [], _ => List.pairwise_singleton _ _
  | y :: ys, h => by
    have h' := List.pairwise_cons.mp h
    unfold insL
    split
    · rename_i hl
      refine List.pairwise_cons.mpr ⟨fun z hz => ?_, insL_sorted x ys h'.2⟩
      rcases List.mem_cons.mp ((insL_perm x ys).mem_iff.mp hz) with rfl | hz
      · exact swoL.asym _ _ hl
      · exact h'.1 z hz
    · rename_i hl
      have hl : ltL y x = false := by simpa using hl
      refine List.pairwise_cons.mpr ⟨fun z hz => ?_, h⟩
      rcases List.mem_cons.mp hz with rfl | hz
      · exact hl
      · exact swoL.tr x y z hl (h'.1 z hz)
theorem sortL_sorted : ∀ l, SrtL (sortL l)
  | [] => .nil
  | x :: xs => insL_sorted x _ (sortL_sorted xs)
theorem sortL_uniq {l m : List (List Int)} (p : l.Perm m) (s : SrtL l) : l = sortL m :=
  sorted_uniq (R := fun a b : List Int => ltL b a = false) (fun a b h h' => ltL_anti h' h) s (sortL_sorted m) (p.trans (sortL_perm m).symm)
section
variable {prog : Program} {w : World} {A : Around} {E : Value → Shared → Prop} {s : Shared}
open PySem.W PySem.SeqAt in
/-- one tuple against another, both told to be of one type -/
theorem oneLt_tup {xs ys : List D} {a b : Value} {as bs : List Addr} {Q : Bool → Shared → Prop} (ra : Reads s.heap a (.tuple xs) as) (rb : Reads s.heap b (.tuple ys) bs) (hal : alikeAll xs ys = true) (hu : A.units + min (PyData.depth (.tuple xs)) (PyData.depth (.tuple ys)) < cLine)
    (hq : Q (rowLt xs ys) s) : wpAny (model prog w) A (oneLt' true a b) Q E s := by
  cases ra with
  | @tuple l o vs n _ _ h1 h2 h3 h4 =>
    cases rb with
    | @tuple l' o' vs' n' _ _ k1 k2 k3 k4 =>
      have n1 : vs.size = xs.length := by simpa using SeqAt.ReadsAll.length _ _ _ h4
      have n2 : vs'.size = ys.length := by simpa using SeqAt.ReadsAll.length _ _ _ k4
      have e : rowLt xs ys = firstLt (pairEq xs ys) (fun j => dataLt (xs.getD j .none) (ys.getD j .none)) (decide (vs.size < vs'.size)) (List.range (min vs.size vs'.size)) := by
        rw [n1, n2, firstLt_toks xs ys hal]; rfl
      rw [e] at hq
      have t1 : s.heap.IsTuple l vs := ⟨_, h1, h2, _, h3⟩
      have t2 : s.heap.IsTuple l' vs' := ⟨_, k1, k2, _, k3⟩
      obtain ⟨⟨c1, d1, dt1, sl1⟩, ho1, hc1, m1, hd1⟩ := id t1
      obtain ⟨⟨c2, d2, dt2, sl2⟩, ho2, hc2, m2, hd2⟩ := id t2
      dsimp only at hc1 hd1 hc2 hd2
      subst hc1 hd1 hc2 hd2
      rw [oneLt'_eq]
      simp only [if_true]
      refine wpAny_bind (wpAny_cRoomFor (room_here hu) ?_)
      refine wpAny_bind (wpAny_callSpecialIfBound?_slot (T := "tuple") ⟨_, ho1, rfl⟩ F.slot_tuple_lt (call_meets F.slot_tuple_lt ⟨_, ho1, rfl⟩ F.entry_tuple_lt (F.args_tuple_lt_2 _ _) (tuple_ltAt l l' vs vs' m1 m2 d1 d2 sl1 sl2 (pairEq xs ys) (fun j => dataLt (xs.getD j .none) (ys.getD j .none))) ⟨ho1, ho2, fun j j1 j2 => ?_, fun j j1 j2 hj => ?_, ?_⟩))
      · have := eqAt_alikeAll xs ys A.in1 s vs.toList vs'.toList _ _ h4 k4 hal (room_in hu) j (by simpa using j1) (by simpa using j2)
        simpa using this
      · have := rcLt_alikeAll xs ys A.in1 s vs.toList vs'.toList _ _ h4 k4 hal (room_in hu) j (by simpa using j1) (by simpa using j2) hj
        simpa using this
      · exact wpAny_truthy_bool hq
/-- the first item of a tuple, as sorting asks it -/
theorem first_tup {v : Value} {ns : List Int} {Q : Option Value → Shared → Prop} (t : TS.TupInts s.heap v ns) (h : ∀ f : Option Value, (f = none ↔ ns = []) → Q f s) : wpAny (model prog w) A (firstOfTuple' v) Q E s := by
  obtain ⟨a, xs, rfl, hT, hi⟩ := t
  obtain ⟨o, ho, hc, n, hd⟩ := hT
  rw [PySem.W.kas_first_eq]
  refine wpAny_bind (PySem.W.Looks.here (show PySem.W.Looks (model prog w) s.heap (typeOf (.ref a)) o.cls from (PySem.W.Looks.ld ho).andThen .now) ?_)
  rw [hc, if_neg (by first | decide | simp)]
  refine wpAny_bind (listItems_at ho hd (wpAny_pure (h _ ?_)))
  have hl := hi.length
  rw [Array.length_toList] at hl
  rw [Array.getElem?_eq_none_iff]
  constructor
  · intro q; exact List.eq_nil_of_length_eq_zero (by omega)
  · intro q; subst q; simpa using hl
theorem firsts_tup : ∀ (vs : List Value) (k : Value → List Int) {Q : List (Option Value) → Shared → Prop}, (∀ v ∈ vs, TS.TupInts s.heap v (k v)) → (∀ fs : List (Option Value), (∀ v r, vs = v :: r → k v = [] → ∃ t, fs = none :: t) → Q fs s) → wpAny (model prog w) A (vs.mapM firstOfTuple') Q E s
  | [], k, Q, _, h => by rw [List.mapM_nil]; exact wpAny_pure (h [] fun v r e => by cases e)
  | v :: vs, k, Q, t, h => by
    rw [List.mapM_cons]
    refine wpAny_bind (first_tup (t v List.mem_cons_self) fun f hf => ?_)
    refine wpAny_bind (firsts_tup vs k (Q := fun bs s' => wpAny (model prog w) A (pure (f :: bs)) Q E s') (fun u hu => t u (List.mem_cons_of_mem _ hu)) fun fs _ => wpAny_pure (h _ fun v' r e e2 => ?_))
    cases e
    exact ⟨fs, by rw [hf.mpr e2]⟩
/-- tuples of which the first is empty: compared as of one type -/
theorem kind_tupE {vs : List Value} {k : Value → List Int} {Q : SortKind → Shared → Prop} (t : ∀ v ∈ vs, TS.TupInts s.heap v (k v)) {v0 : Value} {r0 : List Value} (h0 : vs = v0 :: r0) (he : k v0 = []) (h : Q oneType' s) : wpAny (model prog w) A (keyKind' vs.toArray) Q E s := by
  rw [keyKind'_eq, List.mapM_toArray, map_eq_pure_bind]
  refine wpAny_bind (wpAny_bind (firsts_tup vs k t fun fs hf => wpAny_pure ?_))
  obtain ⟨t1, rfl⟩ := hf v0 r0 h0 he
  rw [if_neg (by simp), if_neg (by simp)]
  rw [oneTypeOnly'_eq, List.mapM_toArray, map_eq_pure_bind]
  refine wpAny_bind (wpAny_bind (wpAny_bind (PySem.W.kas_mapM (r := Value.type "tuple") _ (fun v hv Q' hq => ?_) (wpAny_pure ?_))))
  · obtain ⟨a, xs, rfl, ⟨o, ho, hc, _⟩, _⟩ := t v hv
    refine PySem.W.Looks.here (show PySem.W.Looks (model prog w) s.heap (typeOf (.ref a)) o.cls from (PySem.W.Looks.ld ho).andThen .now) ?_
    rw [hc]; exact hq
  · have hall : ((List.map (fun _ => Value.type "tuple") vs).toArray.all fun x => x == Value.type "tuple") = true := by
      simp only [List.all_toArray, List.all_map, List.all_eq_true]
      intro _ _
      exact beq_self_eq_true (Value.type "tuple")
    have h1 : (List.map (fun _ => Value.type "tuple") vs).toArray[0]? = some (Value.type "tuple") := by subst h0; simp
    rw [h1]
    simp only [hall, if_true]
    exact wpAny_pure (wpAny_pure h)
theorem reads_ints : ∀ {vs : List Value} {ns : List Int}, IntsAre vs ns → ReadsAll s.heap vs (ns.map .int) []
  | _, _, .nil => .nil
  | _, _, .cons n t r => .cons (as := []) (bs := []) (.int n t) (reads_ints r)
theorem tup_sortable {a : Addr} {vs : List Value} {k : Value → List Int} (hu : A.units + 60 < cLine) (t : ∀ v ∈ vs, TS.TupInts s.heap v (k v)) {v0 : Value} {r0 : List Value} (h0 : vs = v0 :: r0) (he : k v0 = []) (ha : ∀ o, s.heap.get? a = some o → o.cls ≠ .type "tuple") :
    SrtO.SortableO prog w A s a vs fun v u => ltL (k v) (k u) := by
  intro h' keep
  have t' : ∀ v ∈ vs, TS.TupInts h' v (k v) := fun v hv => by
    obtain ⟨b, xs, rfl, ⟨o, ho, hc, n, hd⟩, hi⟩ := t v hv
    exact ⟨b, xs, rfl, ⟨o, keep b o (fun z => by subst z; exact ha o ho hc) ho, hc, n, hd⟩, hi⟩
  refine ⟨oneType', fun Q E hq => kind_tupE (s := { s with heap := h' }) t' h0 he hq, fun p q hp hq => ?_⟩
  obtain ⟨b, xs, e1, ⟨o, ho, hc, n, hd⟩, hi⟩ := t' _ hp
  obtain ⟨c, ys, e2, ⟨o2, ho2, hc2, n2, hd2⟩, hi2⟩ := t' _ hq
  show wpAny (model prog w) A (keyLt' oneType' p.1 q.1) (fun r s' => s' = ({ s with heap := h' } : Shared) ∧ r = ltL (k p.1) (k q.1)) (fun _ _ => False) _
  rw [keyLt'_oneType]
  generalize k p.1 = ns at hi ⊢
  generalize k q.1 = ms at hi2 ⊢
  rw [e1, e2]
  refine oneLt_tup (s := { s with heap := h' }) (Reads.tuple ho hc hd (reads_ints (s := { s with heap := h' }) hi)) (Reads.tuple ho2 hc2 hd2 (reads_ints (s := { s with heap := h' }) hi2)) (PySem.W.alike_ints _ _) ?_ ⟨rfl, rfl⟩
  show A.units + min (PyData.depthAll (ns.map .int) + 1) (PyData.depthAll (ms.map .int) + 1) < cLine
  rw [PySem.W.depth_ints, PySem.W.depth_ints]
  omega
end
/-- sorted(xs): tuples of ints (k says which), the first of them empty -/
def rSortE (K : PySem.W.Frag) : List V → Hp → VK → Prop := fun vs H Q => ∃ (a : Addr) (xs : List V) (k : V → List Int) (x0 : V) (r0 : List V), vs = [V.ref a] ∧ SqL K H a xs ∧ xs = x0 :: r0 ∧ k x0 = [] ∧ (∀ x ∈ xs, TupI K H x (k x)) ∧
  ∀ ys p, ys.Perm xs → ys.Pairwise (fun x y => ltL (k y) (k x) = false) → H p = none → Q (.ref p) (upd H p (.lst ys))
theorem cr_sortE {X : Cx} (hu : X.A.units + 64 < cLine) : CallR X (.builtin "sorted") (rSortE X.K) := by
  intro pins s σ H vs us Q I r h
  obtain ⟨a, xs, k, x0, r0, rfl, hs, e0, ek, hx, q⟩ := h
  obtain ⟨its, rv, hl, hz⟩ := I.list hs
  rw [Vals.ref1 r]
  obtain ⟨e1, e2⟩ := refs_back rv fun x m => ⟨(hx x m).choose, (hx x m).choose_spec.1⟩
  have ht : ∀ v ∈ its, TS.TupInts s.heap v (k (backV v)) := fun v hv => by
    obtain ⟨t, rfl⟩ := e2 v hv
    have hm : V.ref t ∈ xs := by rw [e1]; exact List.mem_map.mpr ⟨_, hv, rfl⟩
    obtain ⟨t', e, hT⟩ := hx _ hm
    cases e
    obtain ⟨us, ru, hT2, _⟩ := I.tuple hT
    exact ⟨t, us.toArray, rfl, hT2, by show IntsAre us.toArray.toList (k (V.ref t)); simpa using ru.ints⟩
  obtain ⟨v0, w0, ev, ek0⟩ : ∃ v0 w0, its = v0 :: w0 ∧ k (backV v0) = [] := by
    cases its with
    | nil => rw [e0] at e1; cases e1
    | cons v0 w0 =>
      rw [e0, List.map_cons] at e1
      injection e1 with q1 q2
      exact ⟨v0, w0, rfl, by rw [← q1]; exact ek⟩
  refine SrtO.sorted_ord (ltv := fun v u => ltL (k (backV v)) (k (backV u))) ⟨fun x y => swoL.asym _ _, fun x y z => swoL.tr _ _ _⟩ hl.isList (by rw [← rv.length]; exact hz) (fun h2 h₁ b hb kk => ?_) fun out h1 h2 => ?_
  · refine tup_sortable (s := { s with heap := h₁ }) (k := fun v => k (backV v)) (by show X.A.units + 1 + 1 + 60 < cLine; omega) (fun v hv => ?_) ev ek0 fun o e => ?_
    · obtain ⟨c, ys, rfl, ⟨o, ho, hc, n, hd⟩, hi⟩ := ht v hv
      exact ⟨c, ys, rfl, ⟨o, (kk c o ho).2, hc, n, hd⟩, hi⟩
    · have z : some o = some (seqObj "list" its.toArray 0) := e.symm.trans hb
      cases z
      exact fun c => absurd (Value.type.inj c) (by decide)
  · have h3 : ∀ u ∈ out, ∃ a, u = Value.ref a := fun u hu => e2 u (h2.perm.mem_iff.mp hu)
    obtain ⟨n, hn⟩ := PyProof.Rows.sortedAll_at s.heap its out.toArray
    have pe : (out.map backV).Perm xs := by rw [e1]; exact h2.perm.map backV
    exact ⟨.ref _, upd H _ (.lst (out.map backV)), I.laid (t' := s.toks) (fun _ _ => PyProof.Rows.sortedAll_old) (Nat.le_succ _) ⟨by rw [pe.length_eq]; exact hz, out, n, vals_back h3, hn⟩, rfl, q _ _ pe (List.pairwise_map.mpr h1) (I.hok.fresh (Nat.le_succ _))⟩
def dSortE : List D → Option D
  | [.list ds] => (tupsN ds).bind fun tl => if tl.head? = some [] then some (.list ((sortL tl).map encN)) else none
  | _ => none
section
variable {C : Ct}
/-- the tuple of ints that a value is -/
theorem keys_of {F : Hp} : ∀ {xs : List V} {l : List (List Int)}, RpA F xs (l.map encN) → ∃ k : V → List Int, xs.map k = l ∧ ∀ x ∈ xs, Rp F x (encN (k x)) := fun {xs l} r => by
  have det : ∀ {x : V} {m n : List Int}, Rp F x (encN m) → Rp F x (encN n) → m = n := fun {x m n} r1 r2 => by
    cases r1 with
    | @tup a vs _ h1 q1 =>
      cases r2 with
      | @tup _ ws _ h2 q2 =>
        rw [h1] at h2
        cases h2
        have e1 := ints_rp q1 (intsD_map m)
        have e2 := ints_rp q2 (intsD_map n)
        rw [e1] at e2
        exact map_inj (fun a b h => by injection h) e2
  classical
  refine ⟨fun x => if h : ∃ n, Rp F x (encN n) then h.choose else [], ?_, ?_⟩
  · have go : ∀ {xs : List V} {l : List (List Int)}, RpA F xs (l.map encN) → (xs.map fun x => if h : ∃ n, Rp F x (encN n) then h.choose else []) = l := fun {xs} => by
      induction xs with
      | nil => intro l r; cases l with
        | nil => rfl
        | cons => cases r
      | cons x xs ih =>
        intro l r
        cases l with
        | nil => cases r
        | cons n l =>
          cases r with
          | cons r1 r2 =>
            have ex : ∃ n, Rp F x (encN n) := ⟨n, r1⟩
            rw [List.map_cons, ih r2, dif_pos ex, det ex.choose_spec r1]
    exact go r
  · intro x hx
    have ex : ∃ n, Rp F x (encN n) := by
      obtain ⟨i, hi, e⟩ := List.mem_iff_getElem.mp hx
      have hl : i < l.length := by have := r.length; rw [List.length_map] at this; omega
      obtain ⟨v, hv, rp⟩ := r.get (i := i) (d := encN l[i]) (by rw [List.getElem?_map, List.getElem?_eq_getElem hl]; rfl)
      rw [List.getElem?_eq_getElem hi] at hv
      cases hv
      exact ⟨l[i], by rw [← e]; exact rp⟩
    show Rp F x (encN (if h : ∃ n, Rp F x (encN n) then h.choose else []))
    rw [dif_pos ex]
    exact ex.choose_spec
theorem raw_sortE {K : PySem.W.Frag} : RawL C (rSortE K) dSortE := fun F H δ vs ds z Q hs r o p => by
  unfold dSortE at o
  split at o
  · rename_i es
    obtain ⟨tl, e1, e2⟩ := Option.bind_eq_some_iff.mp o
    split at e2
    · rename_i ok
      cases (Option.some.inj e2)
      have e3 := tupsN_back e1
      subst e3
      obtain ⟨a, xs, rfl, h1, h2⟩ := one_list r
      obtain ⟨k, ek, hk⟩ := keys_of h2
      cases xs with
      | nil => rw [← ek] at ok; cases ok
      | cons x0 r0 =>
        refine ⟨a, x0 :: r0, k, x0, r0, rfl, SqL.of (hs.sub _ _ h1), rfl, ?_, fun x hx => rp_tupI hs.sub (hk x hx), fun ys q pe so nq => ?_⟩
        · rw [← ek, List.map_cons, List.head?_cons] at ok
          exact Option.some.inj ok
        · have e4 : ys.map k = sortL tl := sortL_uniq (by rw [← ek]; exact pe.map k) (List.pairwise_map.mpr so)
          have r5 : ∀ (ys : List V), (∀ y ∈ ys, Rp F y (encN (k y))) → RpA F ys ((ys.map k).map encN) := fun ys => by
            induction ys with
            | nil => intro _; exact .nil
            | cons y ys ih => intro h; exact .cons (h y List.mem_cons_self) (ih fun z hz => h z (List.mem_cons_of_mem _ hz))
          have r6 := r5 ys fun y hy => hk y (pe.mem_iff.mp hy)
          rw [e4] at r6
          exact p.list hs nq r6
    · cases e2
  · cases o
end
end Lay

set_option Elab.async false
set_option linter.all false
set_option maxRecDepth 100000
set_option maxHeartbeats 4000000
/-! Rules for k02: dicts with tuples of ints for keys, data for values -/
namespace Lay
open PySem PySem.Spec PyProof.Rows L2

def getT (ρ : En) (i : Nat) : Option (List (List Int × D)) := match ρ[i]? with
  | some (some (.dT kvs)) => some kvs
  | _ => none
def setT (ρ : En) (i : Nat) (kvs : List (List Int × D)) : En := ρ.set i (some (.dT kvs))
abbrev keyI (k : List Int) : List L2.Key := k.map Sum.inl
theorem keyI_inj {a b : List Int} (h : keyI a = keyI b) : a = b := map_inj (fun x y e => by injection e) h
theorem keyI_V (k : List Int) : (keyI k).map kV = k.map V.int := by rw [List.map_map]; rfl
def valT : List (List Int × D) → List Int → Option D
  | [], _ => none
  | p :: r, k => if p.1 = k then some p.2 else valT r k
def putT : List (List Int × D) → List Int → D → List (List Int × D)
  | [], k, d => [(k, d)]
  | p :: r, k, d => if p.1 = k then (p.1, d) :: r else p :: putT r k d
section
variable {F : Hp}
theorem KvR.val {kvs : List (List Int × D)} {ws : List (List L2.Key × V)} (r : KvR F kvs ws) {k : List Int} {d : D} (h : valT kvs k = some d) : ∃ v, valV ws (keyI k) = some v ∧ Rp F v d := by
  induction r with
  | nil => cases h
  | @cons p q _ _ hq _ ih =>
    unfold valT at h
    by_cases e : p.1 = k
    · rw [if_pos e] at h
      cases h
      exact ⟨q.2, valV_pos (by rw [hq.1, e]), hq.2⟩
    · rw [if_neg e] at h
      obtain ⟨v, h1, h2⟩ := ih h
      exact ⟨v, by rw [valV_neg (fun z => e (keyI_inj (hq.1.symm.trans z)))]; exact h1, h2⟩
theorem putK_cons {κ : Type} [DecidableEq κ] (p : κ × V) (r : List (κ × V)) (k : κ) (v : V) (nd : p.1 = k → ∀ q ∈ r, q.1 ≠ k) : putK (p :: r) k v = if p.1 = k then (p.1, v) :: r else p :: putK r k v := by
  by_cases e : p.1 = k
  · rw [if_pos e]
    unfold putK
    rw [List.any_cons, decide_eq_true e, Bool.true_or, if_pos rfl, List.map_cons, if_pos e]
    congr 1
    refine (List.map_congr_left fun q hq => if_neg (nd e q hq)).trans (List.map_id' r)
  · rw [if_neg e]
    unfold putK
    rw [List.any_cons, decide_eq_false e, Bool.false_or, List.map_cons, if_neg e]
    split <;> rfl
theorem KvR.put {kvs : List (List Int × D)} {ws : List (List L2.Key × V)} (r : KvR F kvs ws) (nd : (kvs.map (·.1)).Nodup) (k : List Int) {d : D} {v : V} (h : Rp F v d) : KvR F (putT kvs k d) (putK ws (keyI k) v) := by
  induction r with
  | nil => exact .cons ⟨rfl, h⟩ .nil
  | @cons p q ps qs hq hr ih =>
    rw [List.map_cons, List.nodup_cons] at nd
    have keys : ∀ {l : List (List Int × D)} {m : List (List L2.Key × V)}, KvR F l m → ∀ x ∈ m, ∃ y ∈ l, x.1 = keyI y.1 := fun {l m} z => by
      induction z with
      | nil => intro x hx; cases hx
      | @cons a b _ _ h1 _ ih =>
        intro x hx
        rcases List.mem_cons.mp hx with rfl | hx
        · exact ⟨a, List.mem_cons_self, h1.1⟩
        · obtain ⟨y, hy, e⟩ := ih x hx
          exact ⟨y, List.mem_cons_of_mem _ hy, e⟩
    rw [putK_cons q qs (keyI k) v fun e x hx z => by
      obtain ⟨y, hy, e2⟩ := keys hr x hx
      have e3 : p.1 = y.1 := keyI_inj (hq.1.symm.trans (e.trans (z.symm.trans e2)))
      exact nd.1 (by rw [e3]; exact List.mem_map.mpr ⟨y, hy, rfl⟩)]
    unfold putT
    by_cases e : p.1 = k
    · rw [if_pos e, if_pos (by rw [hq.1, e])]
      exact .cons ⟨hq.1, h⟩ hr
    · rw [if_neg e, if_neg (fun z => e (keyI_inj (hq.1.symm.trans z)))]
      exact .cons hq (ih nd.2)
end
section
variable {C : Ct} {X : Cx}
theorem Rel.setT {σ : L2.St} {ρ : En} {F H : Hp} {δ : Dice} (R : Rel C σ ρ F H δ) {i : Nat} {p : Addr} {kvs : List (List Int × D)} {ws : List (List L2.Key × V)} (hp : H p = some (.dT ws)) (f : F p = none) (n0 : C.H0 p = none) (r : KvR F kvs ws) (hL : noL ρ = true) : Rel C (σ.set i (some (.ref p))) (setT ρ i kvs) F H δ := by
  have ne : ∀ j ds, (Lay.setT ρ i kvs)[j]? = some (some (.own ds)) → j ≠ i ∧ ρ[j]? = some (some (.own ds)) := fun j ds e => by
    unfold Lay.setT at e
    by_cases hj : i = j
    · subst hj
      by_cases hl : i < ρ.length
      · rw [List.getElem?_set_self hl] at e; cases e
      · rw [List.getElem?_eq_none (by simpa using hl)] at e; cases e
    · rw [List.getElem?_set_ne hj] at e
      exact ⟨fun z => hj z.symm, e⟩
  refine ⟨R.hs, R.st, R.h0, by unfold Lay.setT; rw [List.length_set, List.length_set]; exact R.len, fun j sv e => ?_, fun j k ds ds' a e1 e2 e3 e4 => ?_, fun j kv e => by
    unfold Lay.setT at e
    by_cases hj : i = j
    · subst hj
      by_cases hl : i < ρ.length
      · rw [List.getElem?_set_self hl] at e; cases e
      · rw [List.getElem?_eq_none (by simpa using hl)] at e; cases e
    · rw [List.getElem?_set_ne hj] at e
      exact absurd e (noL_at hL)⟩
  · unfold Lay.setT at e
    by_cases hj : i = j
    · subst hj
      by_cases hl : i < ρ.length
      · rw [List.getElem?_set_self hl] at e
        cases e
        exact ⟨.ref p, by rw [List.getElem?_set_self (by rw [R.len]; exact hl)], p, ws, rfl, hp, f, n0, r⟩
      · rw [List.getElem?_eq_none (by simpa using hl)] at e; cases e
    · rw [List.getElem?_set_ne hj] at e
      obtain ⟨u, e1, ok⟩ := R.sl j sv e
      exact ⟨u, by rw [List.getElem?_set_ne hj]; exact e1, ok⟩
  · obtain ⟨n1, q1⟩ := ne j ds e1
    obtain ⟨n2, q2⟩ := ne k ds' e2
    rw [List.getElem?_set_ne n1.symm] at e3
    rw [List.getElem?_set_ne n2.symm] at e4
    exact R.ap j k ds ds' a q1 q2 e3 e4
theorem nc_dt {H : Hp} {p : Addr} {ws : List (List L2.Key × V)} (n : H p = some (.dT ws)) : ∀ c q, H p ≠ some (LamX.CodeO c q) := fun c q z => by
  rw [n] at z
  have z := Option.some.inj z
  unfold LamX.CodeO at z
  cases z
theorem Rel.dT {σ : L2.St} {ρ : En} {F H : Hp} {δ : Dice} (R : Rel C σ ρ F H δ) {i : Nat} {kvs : List (List Int × D)} (e : getT ρ i = some kvs) :
    ∃ a ws, σ[i]? = some (some (.ref a)) ∧ H a = some (.dT ws) ∧ F a = none ∧ C.H0 a = none ∧ a ≠ C.aD ∧ a ∉ C.G.tabs ∧ ρ[i]? = some (some (.dT kvs)) ∧ KvR F kvs ws := by
  unfold getT at e
  split at e
  · rename_i z hz
    cases e
    obtain ⟨v, e1, a, ws, rfl, h1, h2, h3, h4⟩ := R.sl i _ hz
    exact ⟨a, ws, e1, h1, h2, h3, fun z => R.h0.1 (by rw [← z]; exact h3), fun z => R.h0.2 a z h3, hz, h4⟩
  · cases e
theorem Rel.writeT {σ : L2.St} {ρ : En} {F H : Hp} {δ : Dice} (R : Rel C σ ρ F H δ) {i : Nat} {a : Addr} {kvs kvs' : List (List Int × D)} {ws ws' : List (List L2.Key × V)} (hi : ρ[i]? = some (some (.dT kvs))) (ha : σ[i]? = some (some (.ref a))) (f : F a = none) (n0 : C.H0 a = none) (n1 : a ≠ C.aD) (n2 : a ∉ C.G.tabs)
    (hd : H a = some (.dT ws)) (r : KvR F kvs' ws') (uq : ∀ (j : Nat) (es : List (List Int × D)), j ≠ i → ρ[j]? = some (some (.dT es)) → σ[j]? ≠ some (some (.ref a))) : Rel C σ (Lay.setT ρ i kvs') F (upd H a (.dT ws')) δ := by
  have hil : i < ρ.length := (List.getElem?_eq_some_iff.mp hi).1
  have at_ : ∀ {j : Nat} {sv : SV}, (Lay.setT ρ i kvs')[j]? = some (some sv) → (j = i ∧ sv = .dT kvs') ∨ (j ≠ i ∧ ρ[j]? = some (some sv)) := fun {j sv} e => by
    unfold Lay.setT at e
    by_cases hj : i = j
    · subst hj
      rw [List.getElem?_set_self hil] at e; cases e; exact .inl ⟨rfl, rfl⟩
    · rw [List.getElem?_set_ne hj] at e
      exact .inr ⟨fun z => hj z.symm, e⟩
  refine ⟨R.hs.own f n1 n2 (nc_dt hd), Step.own R.st n0, R.h0, by unfold Lay.setT; rw [List.length_set]; exact R.len, fun j sv e => ?_, fun j k es es' b e1 e2 e3 e4 => ?_, fun j kv e => by
    rcases at_ e with ⟨_, z⟩ | ⟨_, e⟩
    · cases z
    · exact (R.no_dT hi e).elim⟩
  · rcases at_ e with ⟨rfl, rfl⟩ | ⟨hj, e⟩
    · exact ⟨_, ha, a, ws', rfl, upd_same, f, n0, r⟩
    · obtain ⟨v, e1, ok⟩ := R.sl j sv e
      refine ⟨v, e1, ?_⟩
      cases sv with
      | v d => exact ok
      | dice => exact ok
      | own es =>
        obtain ⟨b, us, rfl, g1, g2, g3, g4⟩ := ok
        have nb : b ≠ a := fun z => by rw [z, hd] at g1; cases g1
        exact ⟨b, us, rfl, by rw [upd_ne nb]; exact g1, g2, g3, g4⟩
      | dct es =>
        obtain ⟨b, rfl, g1, g2, g3⟩ := ok
        have nb : b ≠ a := fun z => by rw [z, hd] at g1; cases g1
        exact ⟨b, rfl, by rw [upd_ne nb]; exact g1, g2, g3⟩
      | dT es =>
        obtain ⟨b, us, rfl, g1, g2, g3, g4⟩ := ok
        have nb : b ≠ a := fun z => uq j es hj e (by rw [e1, z])
        exact ⟨b, us, rfl, by rw [upd_ne nb]; exact g1, g2, g3, g4⟩
      | dL es => exact (R.no_dT hi e).elim
  · rcases at_ e1 with ⟨_, z⟩ | ⟨_, q1⟩
    · cases z
    · rcases at_ e2 with ⟨_, z⟩ | ⟨_, q2⟩
      · cases z
      · exact R.ap j k es es' b q1 q2 e3 e4
/-- a dict comes to be, not yet in a slot -/
theorem new_T {σ : L2.St} {ρ : En} {F H : Hp} {δ : Dice} {q : Addr} (R : Rel C σ ρ F H δ) (nq : H q = none) : Rel C σ ρ F (upd H q (.dT [])) δ ∧ F q = none ∧ C.H0 q = none ∧ q ≠ C.aD ∧ q ∉ C.G.tabs ∧ Step C.G C.aD F H F (upd H q (.dT [])) := by
  have n1 : q ≠ C.aD := fun z => R.hs.dne (by rw [← z]; exact nq)
  have n2 : q ∉ C.G.tabs := fun z => R.hs.tne z nq
  have n0 : C.H0 q = none := by
    cases z : C.H0 q with
    | none => rfl
    | some o => exact absurd nq (R.st.dom q (by rw [z]; exact fun z => nomatch z))
  have fq := R.hs.fne nq
  have st : Step C.G C.aD F H F (upd H q (.dT [])) := ⟨Ext.refl _, fun _ _ _ _ _ h _ => h, fun a o z _ _ => by rw [upd_ne (ne_of_none z nq)]; exact z, fun a z => by
    by_cases ea : a = q
    · rw [ea, upd_same]; exact fun z => nomatch z
    · rw [upd_ne ea]; exact z⟩
  exact ⟨R.step (R.hs.own fq n1 n2 (nc_none nq)) st, fq, n0, n1, n2, st⟩
end
/-- x = {} -/
def sTNew (i : Nat) : ST := fun ρ => if noL ρ = true then M.pure (.nx (setT ρ i [])) else M.stuck
/-- i, j = {}, b -/
def sParT (i j : Nat) (b : EX) : ST := fun ρ => M.bind (b ρ) fun y => if i < ρ.length ∧ j < ρ.length ∧ noL ρ = true then M.pure (.nx (setV (setT ρ i []) j y)) else M.stuck
/-- i, j, l = a, b, {} -/
def sPar3T (i j l : Nat) (a b : EX) : ST := fun ρ => M.bind (a ρ) fun x => M.bind (b ρ) fun y => if i < ρ.length ∧ j < ρ.length ∧ l < ρ.length ∧ noL ρ = true then M.pure (.nx (setT (setV (setV ρ i x) j y) l [])) else M.stuck
def soleT (ρ : En) (i : Nat) : Bool := (List.range ρ.length).all fun j => j == i || (getT ρ j).isNone
theorem soleT_ne {ρ : En} {i : Nat} (h : soleT ρ i = true) {j : Nat} {es : List (List Int × D)} (hj : j ≠ i) (e : ρ[j]? = some (some (.dT es))) : False := by
  unfold soleT at h
  have hl : j < ρ.length := (List.getElem?_eq_some_iff.mp e).1
  have := List.all_eq_true.mp h j (List.mem_range.mpr hl)
  unfold getT at this
  rw [e] at this
  simp [hj] at this
/-- x[e] = v -/
def sTSet (i : Nat) (a b : EX) : ST := fun ρ => match getT ρ i with
  | some kvs => M.bind (b ρ) fun d => M.bind (a ρ) fun y => match tupN y with
    | some k => if kvs.length < sizeLine ∧ (kvs.map (·.1)).Nodup ∧ soleT ρ i = true then M.pure (.nx (setT ρ i (putT kvs k d))) else M.stuck
    | none => M.stuck
  | none => M.stuck
/-- x[e] -/
def eTGet (i : Nat) (a : EX) : EX := fun ρ => match getT ρ i with
  | some kvs => M.bind (a ρ) fun y => M.lift ((tupN y).bind fun k => valT kvs k)
  | none => M.stuck
theorem tup_back {F : Hp} {v : V} {d : D} {k : List Int} (r : Rp F v d) (h : tupN d = some k) : ∃ b, v = .ref b ∧ F b = some (.tup (k.map V.int)) := by
  cases r with
  | @tup b xs ds h1 r1 =>
    have e := ints_rp r1 h
    subst e
    exact ⟨b, rfl, h1⟩
  | _ => cases h
section
variable {C : Ct} {X : Cx} {ta tb : TE} {fa fb : EX}
theorem evs_tnew {i : Nat} : EvS C (tAsg tDNewT (gName i)) (sTNew i) := fun D' σ ρ F H δ r R e p => by
  unfold sTNew at e
  split at e
  case isFalse => cases e
  rename_i hL
  cases (Option.some.inj e).symm
  intro q nq
  obtain ⟨R2, fq, n0, n1, n2, st⟩ := new_T R nq
  exact p.nx (R2.setT (kvs := []) upd_same fq n0 .nil hL) (Ext.refl F)
theorem evs_parT {i j : Nat} (hb : EvE C tb fb) (hij : i ≠ j) : EvS C (tPar i j (tCons tDNewT (tCons tb tNil))) (sParT i j fb) := fun D' σ ρ F H δ r R e p => by
  intro q nq
  obtain ⟨R2, fq, n0, n1, n2, st0⟩ := new_T R nq
  refine hb.then R2 e p.err fun d δ2 v F' H' e2 R3 st rv => ⟨.ref q, v, rfl, ?_⟩
  split at e2
  · rename_i hz
    cases (Option.some.inj e2).symm
    have hq := st.keep q _ upd_same n1 n2
    have fq' := st.new q _ upd_same n1 n2 fq (fun xs z => nomatch z)
    exact p.nx ((R3.setT (i := i) (kvs := []) hq fq' n0 .nil hz.2.2).setV rv) (st0.ex.trans st.ex)
  · cases e2
theorem evs_par3T {i j l : Nat} (ha : EvE C ta fa) (hb : EvE C tb fb) : EvS C (tPar3 i j l (tCons ta (tCons tb (tCons tDNewT tNil)))) (sPar3T i j l fa fb) := fun D' σ ρ F H δ r R e p =>
  ha.then R e p.err fun d1 δ1 v1 F1 H1 e1 R1 s1 r1 => hb.then R1 e1 p.err fun d2 δ2 v2 F2 H2 e2 R2 s2 r2 => by
    split at e2
    · rename_i hz
      cases (Option.some.inj e2).symm
      intro q nq
      obtain ⟨R3, fq, n0, n1, n2, st0⟩ := new_T R2 nq
      exact ⟨v1, v2, .ref q, rfl, p.nx ((((R3.setV (i := i) ((r1.mono s2.ex).mono st0.ex)).setV (i := j) (r2.mono st0.ex))).setT (kvs := []) upd_same fq n0 .nil (noL_setV (noL_setV hz.2.2.2))) ((s1.trans s2).trans st0).ex⟩
    · cases e2
theorem evs_tset {i : Nat} (ha : EvE C ta fa) (hb : EvE C tb fb) : EvS C (sDPut (tVar i) ta tb) (sTSet i fa fb) := fun D' σ ρ F H δ r R e p => by
  unfold sTSet at e
  cases q : getT ρ i with
  | none => rw [q] at e; cases e
  | some kvs =>
    rw [q] at e
    dsimp only at e
    refine hb.then R e p.err fun d δ1 v F1 H1 e1 R1 s1 rv => ?_
    obtain ⟨a, ws, h1, h2, h3, h4, h6, h7, h8, h9⟩ := R1.dT q
    refine ⟨_, h1, ?_⟩
    refine ha.then R1 e1 p.err fun y δ2 u F2 H2 e2 R2 s2 ry => ?_
    cases qy : tupN y with
    | none => rw [qy] at e2; cases e2
    | some k =>
      rw [qy] at e2
      dsimp only at e2
      split at e2
      · rename_i hz
        cases (Option.some.inj e2).symm
        obtain ⟨b, rfl, hb2⟩ := tup_back ry qy
        have h2' := s2.keep a _ h2 h6 h7
        have f' := s2.new a _ h2 h6 h7 h3 (fun xs z => nomatch z)
        have hbk : H2 b = some (.tup ((keyI k).map kV)) := by rw [keyI_V]; exact R2.hs.sub _ _ hb2
        have r9 := h9.mono s2.ex
        have lw : ws.length = kvs.length := (Paired.length r9).symm
        exact ⟨a, _, rfl, DPut.t h2' hbk (by rw [lw]; exact hz.1), p.nx (R2.writeT h8 h1 f' h4 h6 h7 h2' (r9.put hz.2.1 k (rv.mono s2.ex)) fun j es hj ej _ => soleT_ne hz.2.2 hj ej) (s1.trans s2).ex⟩
      · cases e2
theorem ev_tget {i : Nat} (ha : EvE C ta fa) : EvE C (tDGet (tVar i) ta) (eTGet i fa) := fun σ ρ F H δ Q r R e p => by
  unfold eTGet at e
  cases q : getT ρ i with
  | none => rw [q] at e; cases e
  | some kvs =>
    rw [q] at e
    dsimp only at e
    obtain ⟨a, ws, h1, h2, h3, h4, h6, h7, h8, h9⟩ := R.dT q
    refine ⟨_, h1, ?_⟩
    refine ha.then R e p.err fun y δ2 u F2 H2 e2 R2 s2 ry => ?_
    obtain ⟨z, e3, rfl⟩ := M.lift_some e2
    obtain ⟨k, qy, e4⟩ := Option.bind_eq_some_iff.mp e3
    obtain ⟨b, rfl, hb2⟩ := tup_back ry qy
    have h2' := s2.keep a _ h2 h6 h7
    have hbk : H2 b = some (.tup ((keyI k).map kV)) := by rw [keyI_V]; exact R2.hs.sub _ _ hb2
    obtain ⟨v, hv, rv⟩ := (h9.mono s2.ex).val e4
    exact ⟨a, v, rfl, by rw [← hv]; exact DGet.t h2' hbk, (p.mono s2).val R2.hs rv⟩
end
end Lay

set_option Elab.async false
set_option linter.all false
set_option maxRecDepth 100000
set_option maxHeartbeats 4000000
/-! Rules for k02: their forms; tuples compared; sorted of what is alike, of a dict's keys -/
namespace Lay
open PySem PySem.Spec PyProof.Rows L2

section
variable {C : Ct} {X : Cx} {fa fb : EX} {a b c : Expr}
theorem js_tnew {i : Nat} {x : Str} {pos pos' p2 : Pos} (nd : X.N.Nodup) (hi : X.N[i]? = some x := by rfl) (hx : Loc X.env.scope x := by first | exact .inl rfl | exact .inr rfl) (hs : swapsWith (.Dict [] [] p2) (some (.Name x pos')) pos.line X.env = pure false := by rfl) (hf : X.fn x = true ∨ X.env.scope.names.lookup x = some .local := by first | exact .inl rfl | exact .inr rfl) :
    JS C X (.Assign [.Name x pos'] (.Dict [] [] p2) pos) (sTNew i) := js (ps_set nd hi hx pe_dnewT hs hf) evs_tnew
theorem js_parT {i j : Nat} {x y : Str} {pos px py pt pt2 p3 : Pos} {kt k2 : Nat} (hc : X.calm = true) (nd : X.N.Nodup) (hb : JE C X b fb) (hi : X.N[i]? = some x := by rfl) (hj : X.N[j]? = some y := by rfl) (hij : i ≠ j := by decide) (hx : X.env.scope.names.lookup x = some .local := by rfl) (hy : X.env.scope.names.lookup y = some .local := by rfl)
    (s1 : starEach [.Dict [] [] p3, b] X.env = (false, eval (.Dict [] [] p3) X.env) :: starEach [b] X.env := by rfl) (s2 : starEach [b] X.env = (false, eval b X.env) :: starEach [] X.env := by rfl)
    (hsw : swappedStores [.Tuple [.Name x px, .Name y py] kt pt] (.Tuple [.Dict [] [] p3, b] k2 pt2) X.env = pure (some [x, y]) := by rfl) (hs : swapsWithSole [.Tuple [.Name x px, .Name y py] kt pt] (.Tuple [.Dict [] [] p3, b] k2 pt2) pos.line X.env = pure false := by rfl) :
    JS C X (.Assign [.Tuple [.Name x px, .Name y py] kt pt] (.Tuple [.Dict [] [] p3, b] k2 pt2) pos) (sParT i j fb) := js (ps_par hc nd hi hj hij hx hy (pa_cons pe_dnewT (pa_cons hb pa_nil s2) s1) hsw hs) (evs_parT ev_of hij)
theorem js_tset {e v : Expr} {k i : Nat} {x : Str} {pos p1 p2 : Pos} (hr : Room k X.A) (ha : JE C X e fa) (hb : JE C X v fb) (hN : X.N[i]? = some x := by rfl) (hv : Vis X.env.scope x := by first | exact .inl rfl | exact .inr (.inl rfl) | exact .inr (.inr rfl)) (hd : (x == ("__debug__" : Str)) = false := by decide) (hcd : (x == ("__classdict__" : Str)) = false := by decide)
    (hs : swapsWith v (some (.Subscript (.Name x p1) e p2)) pos.line X.env = pure false := by rfl) : JS C X (.Assign [.Subscript (.Name x p1) e p2] v pos) (sTSet i fa fb) :=
  js (ps_dput (by have := Room.near hr; omega) (pe_var hN hv hd hcd) ha hb hs) (evs_tset ev_of ev_of)
theorem je_tget {e : Expr} {k i : Nat} {x : Str} {pos p1 : Pos} (hr : Room k X.A) (ha : JE C X e fa) (hN : X.N[i]? = some x := by rfl) (hv : Vis X.env.scope x := by first | exact .inl rfl | exact .inr (.inl rfl) | exact .inr (.inr rfl)) (hd : (x == ("__debug__" : Str)) = false := by decide) (hcd : (x == ("__classdict__" : Str)) = false := by decide)
    (hs : NoSl e := by exact fun _ _ => rfl) : JE C X (.Subscript (.Name x p1) e pos) (eTGet i fa) := je (pe_dget (by have := Room.near hr; omega) (pe_var hN hv hd hcd) ha hs) (ev_tget ev_of)
/-! ### i, j, l = a, b, {}, by a tuple -/
theorem new_O {σ : L2.St} {ρ : En} {F H : Hp} {δ : Dice} {q : Addr} {o : HO} (R : Rel C σ ρ F H δ) (nq : H q = none) : Rel C σ ρ F (upd H q o) δ ∧ Step C.G C.aD F H F (upd H q o) := by
  have n1 : q ≠ C.aD := fun z => R.hs.dne (by rw [← z]; exact nq)
  have n2 : q ∉ C.G.tabs := fun z => R.hs.tne z nq
  have fq := R.hs.fne nq
  have st : Step C.G C.aD F H F (upd H q o) := ⟨Ext.refl _, fun _ _ _ _ _ h _ => h, fun a o z _ _ => by rw [upd_ne (ne_of_none z nq)]; exact z, fun a z => by
    by_cases ea : a = q
    · rw [ea, upd_same]; exact fun z => nomatch z
    · rw [upd_ne ea]; exact z⟩
  exact ⟨R.step (R.hs.own fq n1 n2 (nc_none nq)) st, st⟩
theorem evs_asgT {K : PySem.W.Frag} {i j l : Nat} {ta tb : TE} (ha : EvE C ta fa) (hb : EvE C tb fb) : EvS C (tAsg (tTup (tCons ta (tCons tb (tCons tDNewT tNil)))) (gTup K 3 (gCons (gName i) (gCons (gName j) (gCons (gName l) gNil))))) (sPar3T i j l fa fb) := fun D' σ ρ F H δ r R e p =>
  ha.then R e p.err fun d1 δ1 v1 F1 H1 e1 R1 s1 r1 => hb.then R1 e1 p.err fun d2 δ2 v2 F2 H2 e2 R2 s2 r2 => by
    split at e2
    · rename_i hz
      cases (Option.some.inj e2).symm
      intro q nq
      obtain ⟨R3, fq, n0, n1, n2, st0⟩ := new_T R2 nq
      refine ⟨by rw [sizeLine_eq]; show 3 ≤ 16777216; omega, fun t nt => ?_⟩
      obtain ⟨R4, st1⟩ := new_O (o := .tup [v1, v2, V.ref q]) R3 nt
      have hq := st1.keep q _ upd_same n1 n2
      refine ⟨t, [v1, v2, .ref q], rfl, SqT.of upd_same, rfl, v1, [v2, .ref q], rfl, v2, [.ref q], rfl, .ref q, [], rfl, rfl, ?_⟩
      have st := st0.trans st1
      exact p.nx ((((R4.setV (i := i) ((r1.mono s2.ex).mono st.ex)).setV (i := j) (r2.mono st.ex))).setT (kvs := []) hq fq n0 .nil (noL_setV (noL_setV hz.2.2.2))) ((s1.trans s2).trans st).ex
    · cases e2
theorem js_asgT {i j l : Nat} {x y z : Str} {pos px py pz pt pt2 p3 : Pos} {kt k2 : Nat} (hc : X.calm = true) (nd : X.N.Nodup) (ha : JE C X a fa) (hb : JE C X b fb) (hi : X.N[i]? = some x := by rfl) (hj : X.N[j]? = some y := by rfl) (hl : X.N[l]? = some z := by rfl)
    (hx : Loc X.env.scope x := by first | exact .inl rfl | exact .inr rfl) (hy : Loc X.env.scope y := by first | exact .inl rfl | exact .inr rfl) (hz : Loc X.env.scope z := by first | exact .inl rfl | exact .inr rfl)
    (fx : X.fn x = true ∨ X.env.scope.names.lookup x = some .local := by first | exact .inl rfl | exact .inr rfl) (fy : X.fn y = true ∨ X.env.scope.names.lookup y = some .local := by first | exact .inl rfl | exact .inr rfl) (fz : X.fn z = true ∨ X.env.scope.names.lookup z = some .local := by first | exact .inl rfl | exact .inr rfl)
    (s0 : starEach [a, b, .Dict [] [] p3] X.env = (false, eval a X.env) :: starEach [b, .Dict [] [] p3] X.env := by rfl) (s1 : starEach [b, .Dict [] [] p3] X.env = (false, eval b X.env) :: starEach [.Dict [] [] p3] X.env := by rfl) (s2 : starEach [.Dict [] [] p3] X.env = (false, eval (.Dict [] [] p3) X.env) :: starEach [] X.env := by rfl)
    (g1 : (assignEach [.Name x px, .Name y py, .Name z pz] X.env).map (·.2) = assign (.Name x px) X.env :: (assignEach [.Name y py, .Name z pz] X.env).map (·.2) := by rfl) (g2 : (assignEach [.Name y py, .Name z pz] X.env).map (·.2) = assign (.Name y py) X.env :: (assignEach [.Name z pz] X.env).map (·.2) := by rfl) (g3 : (assignEach [.Name z pz] X.env).map (·.2) = assign (.Name z pz) X.env :: (assignEach [] X.env).map (·.2) := by rfl)
    (hn : (assignEach [.Name x px, .Name y py, .Name z pz] X.env).length = 3 := by rfl) (hst : (assignEach [.Name x px, .Name y py, .Name z pz] X.env).findIdx? (·.1) = none := by rfl)
    (hs : swapsWithSole [.Tuple [.Name x px, .Name y py, .Name z pz] kt pt] (.Tuple [a, b, .Dict [] [] p3] k2 pt2) pos.line X.env = pure false := by rfl) (hw : swappedStores [.Tuple [.Name x px, .Name y py, .Name z pz] kt pt] (.Tuple [a, b, .Dict [] [] p3] k2 pt2) X.env = pure none := by rfl) (hm : (assignEach [.Tuple [.Name x px, .Name y py, .Name z pz] kt pt] X.env).map (·.2) = [assign (.Tuple [.Name x px, .Name y py, .Name z pz] kt pt) X.env] := by rfl) :
    JS C X (.Assign [.Tuple [.Name x px, .Name y py, .Name z pz] kt pt] (.Tuple [a, b, .Dict [] [] p3] k2 pt2) pos) (sPar3T i j l fa fb) :=
  js (ps_asg (pe_tup (pa_cons ha (pa_cons hb (pa_cons pe_dnewT pa_nil s2) s1) s0)) (pg_tup hc (pgs_cons (pg_name nd hi hx fx) (pgs_cons (pg_name nd hj hy fy) (pgs_cons (pg_name nd hl hz fz) pgs_nil g3) g2) g1) hn hst) hs hw hm) (evs_asgT ev_of ev_of)
end
/-! ### tuples compared -/
def rLtA (K : PySem.W.Frag) : R2 := fun x y H Q => ∃ d e, Dp K H x d ∧ Dp K H y e ∧ PySem.W.alike d e = true ∧ d ≠ .none ∧ PyData.depth d ≤ 60 ∧ Q (.bl (PySem.W.dataLt d e)) H
theorem op_ltA {X : Cx} (hu : X.A.units + 64 < cLine) : OpR X (compareOp .Lt) (rLtA X.K) := by
  intro pins s σ H x y v u Q I rx ry h
  obtain ⟨d, e, hd, he, al, nn, dp, q⟩ := h
  obtain ⟨as, r1⟩ := Dp.reads I d x v hd rx
  obtain ⟨bs, r2⟩ := Dp.reads I e y u he ry
  exact PySem.W.lt_data r1 r2 al nn (by have := Nat.min_le_left d.depth e.depth; omega) ⟨.bl _, H, I, rfl, q⟩
def dLtA : D → D → Option D := fun d e => if PySem.W.alike d e = true ∧ isNone d = false ∧ PyData.depth d ≤ 60 then some (.bool (PySem.W.dataLt d e)) else none
section
variable {C : Ct}
theorem raw_ltA {K : PySem.W.Frag} : Raw2 C (rLtA K) dLtA := fun F H δ x y d e z Q hs rx ry o p => by
  unfold dLtA at o
  split at o
  · rename_i hk
    cases (Option.some.inj o)
    exact ⟨d, e, rx.dp hs.sub, ry.dp hs.sub, hk.1, (fun w => (by rw [w] at hk; cases hk.2.1)), hk.2.2, p.val hs (.bl _)⟩
  · cases o
end
/-! ### sorted, whatever the items come from -/
section
variable {prog : Program} {w : World} {A : Around} {E : Value → Shared → Prop} {s : Shared}
open SrtO in
theorem sortedC {src : Value} {its : List Value} {lt : Value → Value → Bool} {R : Value → Shared → Prop} (sw : Swo lt) (hz : its.length ≤ sizeLine)
    (hcol : ∀ (A' : Around) (E' : Value → Shared → Prop) (R' : List Value → Shared → Prop), (A.handled = none → A'.handled = none) → (∀ (h' : Heap) (tk : Nat), (∀ b o, s.heap.get? b = some o → h'.get? b = some o) → (∃ o, h'.get? s.heap.objs.size = some o) → R' its { s with heap := h', toks := tk }) → wpAny (model prog w) A' (collect src) R' E' s)
    (hc : 2 ≤ its.length → ∀ (h₁ : Heap) (tk : Nat) (a : Addr), h₁.get? a = some (seqObj "list" its.toArray 0) → (∀ b o, s.heap.get? b = some o → b ≠ a ∧ h₁.get? b = some o) → SortableO prog w A.in1.in1 { s with heap := h₁, toks := tk } a its lt)
    (hr : ∀ (out : List Value) (h' : Heap) (tk : Nat) (p : Addr), Srtd lt out → Stb lt out its → (∀ b o, s.heap.get? b = some o → h'.get? b = some o) → s.heap.objs.size ≤ p → (∃ n, h'.get? p = some (seqObj "list" out.toArray n)) → R (.ref p) { s with heap := h', toks := tk }) :
    wpAny (model prog w) A (call (.builtin "sorted") [src]) R E s := by
  refine Calls.call_function_entry kind_sorted plain_sorted entry_sorted (args_sorted1 _) ?_
  unfold Builtin.«sorted»
  refine wpAny_bind (m := checkCount "sorted" 1 1 _) (wpAny_pure ?_)
  refine wpAny_bind (hcol _ _ _ (fun h => by simp [h]) fun h1 tk k1 ⟨os, ks⟩ => ?_)
  refine wpAny_bind (wpAny_newList ?_ hz)
  have g1 : (h1.push (seqObj "list" its.toArray 0)).get? h1.objs.size = some (seqObj "list" its.toArray 0) := Heap.get?_push_size _ rfl
  have le : s.heap.objs.size ≤ h1.objs.size := Nat.le_of_lt (Heap.lt_size ks)
  have old : ∀ b o, s.heap.get? b = some o → b ≠ h1.objs.size ∧ (h1.push (seqObj "list" its.toArray 0)).get? b = some o := fun b o e => ⟨Nat.ne_of_lt (Heap.lt_size (k1 b o e)), Heap.get?_push_of_some _ (k1 b o e)⟩
  show wpAny _ _ _ _ _ ({ s with heap := h1.push (seqObj "list" its.toArray 0), toks := tk } : Shared)
  refine wpAny_bind (wpAny_holding (wpAny_call_entry slot_list_sort (by exact ⟨_, g1, rfl⟩) entry_list_sort (list_sort_ord (s := { s with heap := h1.push (seqObj "list" its.toArray 0), toks := tk }) sw g1 hz (fun h2 => hc h2 _ tk _ g1 old) fun out so st => ⟨_, rfl, wpAny_pure ⟨_, rfl, ?_⟩⟩) (args_list_sort _)))
  obtain ⟨n, gn⟩ := sortedHeap_at (vs := its) (out := out.toArray) g1
  refine hr out _ tk h1.objs.size so st (fun b o e => ?_) le ⟨n, gn⟩
  have o1 := old b o e
  rw [sortedHeap_old o1.1 (Heap.lt_size o1.2)]
  exact o1.2
theorem colL {l : Addr} {its : List Value} {R : List Value → Shared → Prop} (hl : s.heap.IsList l its.toArray) (hz : its.length ≤ sizeLine)
    (hr : ∀ (h' : Heap) (tk : Nat), (∀ b o, s.heap.get? b = some o → h'.get? b = some o) → (∃ o, h'.get? s.heap.objs.size = some o) → R its { s with heap := h', toks := tk }) : wpAny (model prog w) A (collect (.ref l)) R E s := by
  refine collect_list hl (hr _ s.toks (fun b o e => ?_) ⟨_, get?_update_seq (Heap.get?_push_size _ rfl) _⟩) hz
  rw [Heap.get?_update_ne _ _ _ _ (Nat.ne_of_lt (Heap.lt_size e))]
  exact Heap.get?_push_of_some _ e
theorem colT {l : Addr} {its : List Value} {R : List Value → Shared → Prop} (hl : s.heap.IsTuple l its.toArray) (hz : its.length ≤ sizeLine)
    (hr : ∀ (h' : Heap) (tk : Nat), (∀ b o, s.heap.get? b = some o → h'.get? b = some o) → (∃ o, h'.get? s.heap.objs.size = some o) → R its { s with heap := h', toks := tk }) : wpAny (model prog w) A (collect (.ref l)) R E s := by
  refine coll_tup hl hz (hr _ s.toks (fun b o e => ?_) ⟨_, get?_update_seq (Heap.get?_push_size _ rfl) _⟩)
  rw [Heap.get?_update_ne _ _ _ _ (Nat.ne_of_lt (Heap.lt_size e))]
  exact Heap.get?_push_of_some _ e
theorem colD {d : Addr} {n : Nat} {P : Nat → Value → Prop} {OK : Heap → Prop} {R : List Value → Shared → Prop} (K : PySem.W.KdlSrc prog w "dict" d d n P OK) (hh : A.handled = none) (hok : OK s.heap) (hn : n ≤ sizeLine)
    (hr : ∀ (h' : Heap) (tk : Nat) (acc : Array Value), (∀ b o, s.heap.get? b = some o → h'.get? b = some o) → (∃ o, h'.get? s.heap.objs.size = some o) → ItemsOf P acc n → R acc.toList { s with heap := h', toks := tk }) : wpAny (model prog w) A (collect (.ref d)) R E s := by
  have lt := (K.there _ hok).1
  have gS : (s.heap.push { cls := .type "list", data := .seq ([] : List Value).toArray }).get? s.heap.objs.size = some { cls := .type "list", data := .seq #[] 0 } := Heap.get?_push_size _ rfl
  unfold collect
  refine wpAny_bind (wpAny_runValue (codeAny_builtin (F.entry_proto_collect) ?_))
  rw [Around.under_plainId (F.plain_proto_collect) _]
  show wpAny _ A.in1 (newList [] >>= fun t => again (.builtin "list.__iadd__" ⟨[t, .ref d], []⟩)) _ _ s
  refine wpAny_bind (wpAny_newObj_type ?_)
  refine wpAny_pure (And.intro (plainId_quiet F.plain_list_iadd _) (codeAny_builtin F.entry_list_iadd ?_))
  rw [Around.under_plainId (F.plain_list_iadd) _]
  show wpAny _ A.in1 (Builtin.List.listExtendWith (.ref s.heap.objs.size) (.ref d) (.ref s.heap.objs.size)) _ _ _
  refine wpAny_mono (PySem.W.kdl_extend (s := { s with heap := s.heap.push { cls := .type "list", data := .seq ([] : List Value).toArray } }) (A := A) (R := fun rr s' => rr = .ok (.ret (.ref s.heap.objs.size)) ∧ ∃ (h' : Heap) (tk : Nat) (acc : Array Value) (c : Nat), s' = { s with heap := h', toks := tk } ∧
    (∀ b o, s.heap.get? b = some o → h'.get? b = some o) ∧ h'.get? s.heap.objs.size = some { cls := .type "list", dict := none, data := .seq acc c, slots := #[] } ∧ ItemsOf P acc n) K hh (K.keep _ _ hok fun b _ o e => Heap.get?_push_of_some _ e) s.heap.objs.size (Nat.ne_of_gt lt) (Nat.ne_of_gt lt) (.ref s.heap.objs.size) 0 gS (fun h' tk acc c k g it => ⟨rfl, h', tk, acc, c, rfl, fun b o e => k b o (Nat.ne_of_lt (Heap.lt_size e)) (Heap.get?_push_of_some _ e), g, it⟩) hn) (fun fin s' h => ?_) (fun e s' h => ?_)
  · cases fin with
    | done f =>
      obtain ⟨e, h', tk, acc, c, rfl, k, g, it⟩ := h
      cases e
      show wpAny _ A (load s.heap.objs.size >>= _) _ _ _
      exact wpAny_bind (wpAny_load g (wpAny_pure (hr h' tk acc k ⟨_, g⟩ it)))
    | again c' =>
      refine ⟨h.1, codeAny_mono h.2 fun rr s'' h2 => ?_⟩
      obtain ⟨rfl, h', tk, acc, c, rfl, k, g, it⟩ := h2
      show wpAny _ A (load s.heap.objs.size >>= _) _ _ _
      exact wpAny_bind (wpAny_load g (wpAny_pure (hr h' tk acc k ⟨_, g⟩ it)))
  · exact absurd h.1 (by simp)
/-! ### what is alike -/
open PySem.W in
noncomputable def datOf (h : Heap) (v : Value) : D := open Classical in if q : ∃ d, ∃ as, Reads h v d as then q.choose else .none
open PySem.W in
theorem datOf_is {h : Heap} {v : Value} {d : D} {as : List Addr} (r : Reads h v d as) : datOf h v = d := by
  have q : ∃ d, ∃ as, Reads h v d as := ⟨d, as, r⟩
  unfold datOf
  rw [dif_pos q]
  obtain ⟨as', r'⟩ := q.choose_spec
  exact ((r'.unique _ _ r).1)
theorem dlt_swo : SrtO.Swo PySem.W.dataLt := by
  refine ⟨fun x y h => ?_, fun x y z h1 h2 => ?_⟩
  · cases q : PySem.W.dataLt y x with
    | false => rfl
    | true =>
      have := lex_trans (O := itemOrd) _ _ _ h q
      rw [lex_irrefl] at this
      cases this
  · cases q : PySem.W.dataLt z x with
    | false => rfl
    | true =>
      rcases lex_negTrans (O := itemOrd) _ (PySem.W.keyToks y) _ q with k | k
      · have k : PySem.W.dataLt z y = true := k
        rw [h2] at k; cases k
      · have k : PySem.W.dataLt y x = true := k
        rw [h1] at k; cases k
open PySem.W in
theorem sortable_D {h0 : Heap} {a : Addr} {its : List Value} {ds : List D} {as : List Addr} (r : ReadsAll h0 its ds as) (al : AllAlike ds) (sr : Sortable ds) (h2 : 2 ≤ its.length) (hd : PyData.depthAll ds ≤ 60) (hu : A.units + 61 < cLine)
    (k : ∀ b o, h0.get? b = some o → b ≠ a ∧ s.heap.get? b = some o) : SrtO.SortableO prog w A s a its fun v u => dataLt (datOf h0 v) (datOf h0 u) := by
  intro h' keep
  have kk : ∀ b o, h0.get? b = some o → h'.get? b = some o := fun b o e => keep b o (k b o e).1 (k b o e).2
  have e0 : EachIs (fun v d => ∃ as, Reads h0 v d as) its ds := readsAll_each id (by rw [List.map_id]; exact r)
  have e1 : EachIs (fun v d => ∃ as, Reads h' v d as) its ds := by
    revert e0
    generalize its = I, ds = L
    intro e0
    induction e0 with
    | nil => exact .nil
    | cons h _ ih => obtain ⟨as, q⟩ := h; exact .cons ⟨as, reads_keeps kk q⟩ ih
  have dep : ∀ d ∈ ds, PyData.depth d ≤ PyData.depthAll ds := fun d => by
    generalize ds = L
    induction L with
    | nil => intro h; cases h
    | cons x L ih =>
      intro h
      show _ ≤ max (PyData.depth x) (PyData.depthAll L)
      rcases List.mem_cons.mp h with rfl | h
      · exact Nat.le_max_left _ _
      · exact Nat.le_trans (ih h) (Nat.le_max_right _ _)
  have S := SortsAt.data (prog := prog) (w := w) (A := A) (s := { s with heap := h' }) e1 al sr fun d hm => by have := dep d hm; omega
  obtain ⟨kd, lt, kind⟩ := S.kind
  refine ⟨kd, fun Q E hq => kind h2 E hq, fun p q hp hq => ?_⟩
  obtain ⟨d1, m1, a1, r1⟩ := e0.left _ hp
  obtain ⟨d2, m2, a2, r2⟩ := e0.left _ hq
  have k1 := dataKind_some al m1 (reads_keeps kk r1)
  have k2 := dataKind_some al m2 (reads_keeps kk r2)
  refine lt _ _ _ _ _ k1 k2 ⟨rfl, ?_⟩
  show PyProof.Rows.lexLt itemOrd (keyToks d1) (keyToks d2) = dataLt (datOf h0 p.1) (datOf h0 q.1)
  rw [datOf_is r1, datOf_is r2]; rfl
end
end Lay

set_option Elab.async false
set_option linter.all false
set_option maxRecDepth 100000
set_option maxHeartbeats 4000000
/-! Rules for k02: sorted of alike tuples; sorted of a dict with tuples for keys -/
namespace Lay
open PySem PySem.Spec PyProof.Rows L2

/-! ### sorted, one may say what comes out -/
structure SS (out ds : List D) : Prop where
  perm : out.Perm ds
  srt : out.Pairwise fun a b => PySem.W.dataLt b a = false
  cls : ∀ d ∈ ds, out.filter (SrtO.eqv PySem.W.dataLt d) = ds.filter (SrtO.eqv PySem.W.dataLt d)
theorem eqv_self (x : D) : SrtO.eqv PySem.W.dataLt x x = true := SrtO.eqv_iff.mpr ⟨dlt_swo.refl x, dlt_swo.refl x⟩
theorem ss_uniq : ∀ {a b : List D}, a.Perm b → a.Pairwise (fun x y => PySem.W.dataLt y x = false) → b.Pairwise (fun x y => PySem.W.dataLt y x = false) → (∀ d ∈ a, a.filter (SrtO.eqv PySem.W.dataLt d) = b.filter (SrtO.eqv PySem.W.dataLt d)) → a = b
  | [], b, p, _, _, _ => (List.nil_perm.mp p).symm ▸ rfl
  | x :: a, [], p, _, _, _ => absurd p.length_eq (by simp)
  | x :: a, y :: b, p, h1, h2, hc => by
    have g1 := List.pairwise_cons.mp h1
    have g2 := List.pairwise_cons.mp h2
    have le : ∀ {z : D} {l : List D}, (∀ u ∈ l, PySem.W.dataLt u z = false) → ∀ u ∈ z :: l, PySem.W.dataLt u z = false := fun {z l} h u hu => by
      rcases List.mem_cons.mp hu with rfl | hu
      · exact dlt_swo.refl _
      · exact h u hu
    have e1 : PySem.W.dataLt y x = false := le g1.1 y (p.mem_iff.mpr List.mem_cons_self)
    have e2 : PySem.W.dataLt x y = false := le g2.1 x (p.mem_iff.mp List.mem_cons_self)
    have q := hc x List.mem_cons_self
    rw [List.filter_cons_of_pos (eqv_self x), List.filter_cons_of_pos (SrtO.eqv_iff.mpr ⟨e2, e1⟩)] at q
    injection q with q1 q2
    subst q1
    have p' := p.cons_inv
    rw [ss_uniq p' g1.2 g2.2 fun d hd => by
      have := hc d (List.mem_cons_of_mem _ hd)
      rw [List.filter_cons, List.filter_cons] at this
      split at this
      · injection this
      · exact this]
open Classical in
noncomputable def sortA (ds : List D) : List D := if h : ∃ out, SS out ds then h.choose else ds
theorem sortA_is {out ds : List D} (h : SS out ds) : sortA ds = out := by
  unfold sortA
  have ex : ∃ out, SS out ds := ⟨out, h⟩
  rw [dif_pos ex]
  have k := ex.choose_spec
  exact ss_uniq (k.perm.trans h.perm.symm) k.srt h.srt fun d hd => (k.cls d (k.perm.mem_iff.mp hd)).trans (h.cls d (k.perm.mem_iff.mp hd)).symm
/-- what sorted needs to know of its items -/
def SrtOk (ds : List D) : Prop := (∀ d ∈ ds, ∃ l, d = .tuple l) ∧ (2 ≤ ds.length → PySem.W.AllAlike ds ∧ PySem.W.Sortable ds) ∧ PyData.depthAll ds ≤ 60
theorem zip_data {h : Heap} : ∀ {its : List Value} {ds : List D} {as : List Addr}, ReadsAll h its ds as → (its.map backV).zip ds = its.map fun v => (backV v, datOf h v)
  | _, _, _, .nil => rfl
  | _, _, _, .cons r rs => by rw [List.map_cons, List.zip_cons_cons, List.map_cons, datOf_is r, zip_data rs]
theorem data_map {h : Heap} : ∀ {its : List Value} {ds : List D} {as : List Addr}, ReadsAll h its ds as → its.map (datOf h) = ds
  | _, _, _, .nil => rfl
  | _, _, _, .cons r rs => by rw [List.map_cons, datOf_is r, data_map rs]
section
variable {X : Cx}
/-- sorted(x), x's items laid out -/
theorem sort_run {pins : List (Addr × Obj)} {σ : L2.St} {s : Shared} {H : Hp} {src : Value} {xs : List V} {its : List Value} {ds : List D} {Q : VK} (hu : X.A.units + 64 < cLine) (I : Inv X pins σ H s) (rv : Vals xs its) (hz : xs.length ≤ sizeLine) (dp : DpAll X.K H xs ds) (ok : SrtOk ds)
    (hcol : ∀ (A' : Around) (E' : Value → Shared → Prop) (R' : List Value → Shared → Prop), (X.A.handled = none → A'.handled = none) → (∀ (h' : Heap) (tk : Nat), (∀ b o, s.heap.get? b = some o → h'.get? b = some o) → (∃ o, h'.get? s.heap.objs.size = some o) → R' its { s with heap := h', toks := tk }) → wpAny (model X.prog X.w) A' (collect src) R' E' s)
    (q : ∀ (es : List (V × D)) (p : Addr), es.Perm (xs.zip ds) → SS (es.map (·.2)) ds → H p = none → Q (.ref p) (upd H p (.lst (es.map (·.1))))) :
    wpAny (model X.prog X.w) X.A (call (.builtin "sorted") [src]) (EP X pins σ Q) X.xe s := by
  obtain ⟨ok1, ok2, ok3⟩ := ok
  have hx : ∀ x ∈ xs, ∃ a, x = V.ref a := by
    clear q hcol rv
    induction xs generalizing ds with
    | nil => intro x hx; cases hx
    | cons y ys ih =>
      cases dp with
      | cons d1 d2 =>
        intro x hx
        rcases List.mem_cons.mp hx with rfl | hx
        · obtain ⟨l, rfl⟩ := ok1 _ List.mem_cons_self
          cases d1 with
          | tup h1 h2 => exact ⟨_, rfl⟩
        · exact ih (by have : (y :: ys).length = ys.length + 1 := rfl; omega) d2 (fun d hd => ok1 d (List.mem_cons_of_mem _ hd)) (fun h2 => by
            obtain ⟨k1, k2⟩ := ok2 (Nat.le_succ_of_le h2)
            refine ⟨fun a ha b hb => k1 a (List.mem_cons_of_mem _ ha) b (List.mem_cons_of_mem _ hb), ?_⟩
            rcases k2 with k2 | k2
            · exact .inl fun a ha => k2 a (List.mem_cons_of_mem _ ha)
            · exact .inr fun a ha => k2 a (List.mem_cons_of_mem _ ha)) (Nat.le_trans (Nat.le_max_right _ _) ok3) x hx
  obtain ⟨e1, e2⟩ := refs_back rv hx
  obtain ⟨as, hr⟩ := Dp.readsAll I ds xs its dp rv
  have em := data_map hr
  have ln : its.length = ds.length := by rw [← em, List.length_map]
  refine sortedC (lt := fun v u => PySem.W.dataLt (datOf s.heap v) (datOf s.heap u)) ⟨fun x y => dlt_swo.asym _ _, fun x y z => dlt_swo.tr _ _ _⟩ (by rw [← rv.length]; exact hz) hcol (fun h2 h₁ tk a ha kk => ?_) fun out h' tk p so st keep le hn => ?_
  · obtain ⟨k1, k2⟩ := ok2 (by omega)
    exact sortable_D (s := { s with heap := h₁, toks := tk }) hr k1 k2 h2 ok3 (by show X.A.units + 1 + 1 + 61 < cLine; omega) kk
  · obtain ⟨n, hn⟩ := hn
    have h3 : ∀ u ∈ out, ∃ a, u = Value.ref a := fun u hu => e2 u (st.perm.mem_iff.mp hu)
    have ez : (out.map fun v => (backV v, datOf s.heap v)).Perm (xs.zip ds) := by rw [e1, zip_data hr]; exact st.perm.map _
    have f1 : (out.map fun v => (backV v, datOf s.heap v)).map (·.1) = out.map backV := by rw [List.map_map]; rfl
    have f2 : (out.map fun v => (backV v, datOf s.heap v)).map (·.2) = out.map (datOf s.heap) := by rw [List.map_map]; rfl
    have np : H p = none := I.hok.fresh le
    have z := q (out.map fun v => (backV v, datOf s.heap v)) p ez ?_ np
    · rw [f1] at z
      refine ⟨.ref p, upd H p (.lst (out.map backV)), I.laid (t' := tk) keep le ⟨?_, out, n, vals_back h3, hn⟩, rfl, z⟩
      rw [List.length_map, st.perm.length_eq, ← rv.length]; exact hz
    · rw [f2]
      refine ⟨by rw [← em]; exact st.perm.map _, List.pairwise_map.mpr so, fun d hd => ?_⟩
      rw [← em] at hd ⊢
      obtain ⟨v, hv, rfl⟩ := List.mem_map.mp hd
      rw [List.filter_map, List.filter_map]
      exact congrArg _ (st.cls v)
def rSortA (K : PySem.W.Frag) : List V → Hp → VK → Prop := fun vs H Q => ∃ (a : Addr) (xs : List V) (ds : List D), vs = [V.ref a] ∧ (SqL K H a xs ∨ SqT K H a xs) ∧ DpAll K H xs ds ∧ SrtOk ds ∧
  ∀ (es : List (V × D)) (p : Addr), es.Perm (xs.zip ds) → SS (es.map (·.2)) ds → H p = none → Q (.ref p) (upd H p (.lst (es.map (·.1))))
theorem cr_sortA (hu : X.A.units + 64 < cLine) : CallR X (.builtin "sorted") (rSortA X.K) := by
  intro pins s σ H vs us Q I r h
  obtain ⟨a, xs, ds, rfl, hs, dp, ok, q⟩ := h
  rw [Vals.ref1 r]
  rcases hs with hs | hs
  · obtain ⟨its, rv, hl, hz⟩ := I.list hs
    exact sort_run hu I rv hz dp ok (fun A' E' R' _ hr => colL hl.isList (by rw [← rv.length]; exact hz) hr) q
  · obtain ⟨its, rv, hl, hz⟩ := I.tuple hs
    exact sort_run hu I rv hz dp ok (fun A' E' R' _ hr => colT hl (by rw [← rv.length]; exact hz) hr) q
end
end Lay

set_option Elab.async false
set_option linter.all false
set_option maxRecDepth 100000
set_option maxHeartbeats 4000000
/-! Rules for k02: sorted of what is alike; sorted of a dict with tuples for keys -/
namespace Lay
open PySem PySem.Spec PyProof.Rows L2

theorem rpa_zip {F : Hp} : ∀ {xs : List V} {ds : List D}, RpA F xs ds → ∀ e ∈ xs.zip ds, Rp F e.1 e.2
  | _, _, .nil, e, h => by cases h
  | _, _, .cons h r, e, he => by
    rw [List.zip_cons_cons] at he
    rcases List.mem_cons.mp he with rfl | he
    · exact h
    · exact rpa_zip r e he
theorem rpa_unzip {F : Hp} : ∀ {es : List (V × D)}, (∀ e ∈ es, Rp F e.1 e.2) → RpA F (es.map (·.1)) (es.map (·.2))
  | [], _ => .nil
  | e :: es, h => .cons (h e List.mem_cons_self) (rpa_unzip fun x hx => h x (List.mem_cons_of_mem _ hx))
open Classical in
noncomputable def dSortA : List D → Option D
  | [.list ds] => if SrtOk ds then some (.list (sortA ds)) else none
  | [.tuple ds] => if SrtOk ds then some (.list (sortA ds)) else none
  | _ => none
section
variable {C : Ct}
theorem raw_sortA {K : PySem.W.Frag} : RawL C (rSortA K) dSortA := fun F H δ vs ds z Q hs r o p => by
  have go : ∀ {a : Addr} {xs : List V} {es : List D}, (SqL K H a xs ∨ SqT K H a xs) → RpA F xs es → SrtOk es → z = .list (sortA es) → vs = [.ref a] → rSortA K vs H Q := fun {a xs es} hq r1 ok ez ev => by
    subst ez ev
    refine ⟨a, xs, es, rfl, hq, r1.dp hs.sub, ok, fun ys q pe ss nq => ?_⟩
    have e := sortA_is ss
    have r2 := rpa_unzip (F := F) (es := ys) fun y hy => rpa_zip r1 y (pe.mem_iff.mp hy)
    rw [e] at p
    exact p.list hs nq r2
  unfold dSortA at o
  split at o
  · rename_i es
    split at o
    · rename_i ok
      cases Option.some.inj o
      obtain ⟨v, rfl, h1⟩ := r.one
      cases h1 with
      | lst h1 r1 => exact go (.inl (SqL.of (hs.sub _ _ h1))) r1 ok rfl rfl
    · cases o
  · rename_i es
    split at o
    · rename_i ok
      cases Option.some.inj o
      obtain ⟨v, rfl, h1⟩ := r.one
      cases h1 with
      | tup h1 r1 => exact go (.inr (SqT.of (hs.sub _ _ h1))) r1 ok rfl rfl
    · cases o
  · cases o
end
/-! ### of a dict -/
abbrev tupI (k : List Int) : D := .tuple (k.map .int)
def rSortDT : List V → Hp → VK → Prop := fun vs H Q => ∃ (a : Addr) (ws : List (List L2.Key × V)) (ks : List (List Int)), vs = [V.ref a] ∧ H a = some (.dT ws) ∧ ws.map (·.1) = ks.map keyI ∧ SrtOk (ks.map tupI) ∧
  ∀ (bs : List Addr), Paired (fun b k => H b = some (.tup (k.map V.int))) bs ks → ∀ (es : List (V × D)) (p : Addr), es.Perm ((bs.map V.ref).zip (ks.map tupI)) → SS (es.map (·.2)) (ks.map tupI) → H p = none → Q (.ref p) (upd H p (.lst (es.map (·.1))))
theorem ints_dp {K : PySem.W.Frag} {H : Hp} : ∀ k : List Int, DpAll K H (k.map V.int) (k.map PyData.int)
  | [] => .nil
  | i :: k => .cons (.int i) (ints_dp k)
theorem bs_dp {K : PySem.W.Frag} {H : Hp} {bs : List Addr} {ks : List (List Int)} (h : Paired (fun b k => H b = some (.tup (k.map V.int))) bs ks) : DpAll K H (bs.map V.ref) (ks.map tupI) := by
  induction h with
  | nil => exact .nil
  | cons h _ ih => exact .cons (.tup (SqT.of h) (ints_dp _)) ih
theorem refs_vals : ∀ bs : List Addr, Vals (bs.map V.ref) (bs.map Value.ref)
  | [] => .nil
  | b :: bs => .cons rfl (refs_vals bs)
section
variable {X : Cx}
theorem cr_sortDT (hc : X.calm = true) (hu : X.A.units + 64 < cLine) : CallR X (.builtin "sorted") rSortDT := by
  intro pins s σ H vs us Q I r h
  obtain ⟨a, ws, ks, rfl, ha, ek, ok, q⟩ := h
  rw [Vals.ref1 r]
  obtain ⟨z, hd, xs, rel, o, es, ep, ho, hx, hdat, hes, his, hn⟩ := dt_of I.hok ha
  have hp : Paired (fun b k => H b = some (.tup (k.map V.int))) (xs.map (·.2.1)) ks := by
    clear hes his hn hdat q ok ha z
    induction rel generalizing ks with
    | nil =>
      cases ks with
      | nil => exact .nil
      | cons k ks => cases ek
    | @cons p q ps qs hq _ ih =>
      cases ks with
      | nil => cases ek
      | cons k ks =>
        rw [List.map_cons, List.map_cons] at ek
        injection ek with e1 e2
        refine .cons ?_ (ih ks e2)
        have := hq.2.1
        rw [e1, keyI_V] at this
        exact this
  have hl : es.size = xs.length := by rw [← Array.length_toList, hes, List.length_map]
  have lw : ws.length = xs.length := Paired.length rel
  have hits : ∀ acc : Array Value, ItemsOf (fun i v => ∃ hi : i < es.size, v = es[i].key) acc es.size → acc.toList = (xs.map (·.2.1)).map Value.ref := fun acc it => by
    refine List.ext_getElem? fun i => ?_
    rw [Array.getElem?_toList, List.getElem?_map, List.getElem?_map]
    by_cases hi : i < es.size
    · obtain ⟨v, h1⟩ : ∃ v, acc[i]? = some v := ⟨_, Array.getElem?_eq_getElem (by rw [it.1]; exact hi)⟩
      obtain ⟨_, hv⟩ := it.2 i _ h1
      rw [h1, hv]
      have h2 : es[i]? = some es[i] := Array.getElem?_eq_getElem hi
      rw [entry_at hes i] at h2
      cases hxi : xs[i]? with
      | none => rw [hxi] at h2; cases h2
      | some x =>
        rw [hxi] at h2
        have h2 := Option.some.inj h2
        rw [← h2]; rfl
    · rw [Array.getElem?_eq_none (by rw [it.1]; omega), List.getElem?_eq_none (by omega)]; rfl
  refine sort_run (xs := (xs.map (·.2.1)).map V.ref) (its := (xs.map (·.2.1)).map Value.ref) hu I (refs_vals _) (by rw [List.length_map, List.length_map, ← lw]; exact z) (bs_dp hp) ok (fun A' E' R' hA hr => ?_) (q _ hp)
  exact colD (PySem.KdlSrc.rawDict (es := es) (ep := ep) hd) (hA (I.ok.hd hc)) ⟨o, ho, hx, hdat⟩ (by rw [hl, ← lw]; exact z) fun h' tk acc k e it => by
    rw [hits acc it]; exact hr h' tk k e
end
/-- tuples may be frozen late -/
theorem Hs.freezeT {G : Gt} {aD : Addr} {F H : Hp} {δ : Dice} {p : Addr} {vs : List V} (h : Hs G aD F H δ) (e : H p = some (.tup vs)) : ∃ F', Hs G aD F' H δ ∧ Step G aD F H F' H ∧ F' p = some (.tup vs) := by
  have np : p ≠ aD := fun z => by rw [z, h.dH] at e; cases e
  have nt : p ∉ G.tabs := fun z => by
    obtain ⟨ps, e1, _⟩ := h.tH p z
    rw [e1] at e; cases e
  cases q : F p with
  | some o =>
    have := h.sub p o q
    rw [e] at this
    cases Option.some.inj this
    exact ⟨F, h, Step.refl, q⟩
  | none =>
    refine ⟨upd F p (.tup vs), h.freeze e np nt, ⟨fun a u z => by rw [upd_ne (fun y => by rw [y, q] at z; cases z)]; exact z, fun a o z _ _ f nt => ?_, fun _ _ z _ _ => z, fun _ z => z⟩, upd_same⟩
    rw [upd_ne (fun y => by rw [y, e] at z; cases z; exact nt _ rfl)]
    exact f
theorem frzTs {G : Gt} {aD : Addr} {F H : Hp} {δ : Dice} (h : Hs G aD F H δ) {bs : List Addr} {ks : List (List Int)} (r : Paired (fun b k => H b = some (.tup (k.map V.int))) bs ks) : ∃ F', Hs G aD F' H δ ∧ Step G aD F H F' H ∧ RpA F' (bs.map V.ref) (ks.map tupI) := by
  induction r with
  | nil => exact ⟨F, h, Step.refl, .nil⟩
  | @cons b k _ _ e _ ih =>
    obtain ⟨F1, h1, s1, r1⟩ := ih
    obtain ⟨F2, h2, s2, e2⟩ := h1.freezeT e
    have ri : ∀ k : List Int, RpA F2 (k.map V.int) (k.map PyData.int) := fun k => by
      induction k with
      | nil => exact .nil
      | cons i k ih => exact .cons (.int i) ih
    exact ⟨F2, h2, s1.trans s2, .cons (.tup e2 (ri k)) (RpA.mono s2.ex r1)⟩
/-- sorted(x), x a dict -/
noncomputable def eSortT (i : Nat) : EX := fun ρ => match getT ρ i with
  | some kvs => M.lift (dSortA [.list (kvs.map fun p => tupI p.1)])
  | none => M.stuck
section
variable {C : Ct} {X : Cx}
theorem ev_sortT {i : Nat} : EvE C (tCB rSortDT (tCons (tVar i) tNil)) (eSortT i) := fun σ ρ F H δ Q r R e p => by
  unfold eSortT at e
  cases q : getT ρ i with
  | none => rw [q] at e; cases e
  | some kvs =>
    rw [q] at e
    obtain ⟨a, ws, h1, h2, h3, h4, h6, h7, h8, h9⟩ := R.dT q
    obtain ⟨z, e3, rfl⟩ := M.lift_some e
    unfold dSortA at e3
    dsimp only at e3
    split at e3
    · rename_i ok
      cases Option.some.inj e3
      have em : kvs.map (fun p => tupI p.1) = (kvs.map (·.1)).map tupI := by rw [List.map_map]; rfl
      rw [em] at ok p
      have ek : ws.map (·.1) = (kvs.map (·.1)).map keyI := by
        clear ok p e e3 q h2 h8 em
        induction h9 with
        | nil => rfl
        | cons h _ ih => rw [List.map_cons, List.map_cons, List.map_cons, ih, h.1]
      refine ⟨_, h1, a, ws, kvs.map (·.1), rfl, h2, ek, ok, fun bs hb es p' pe ss np => ?_⟩
      obtain ⟨F', hs', st, r1⟩ := frzTs R.hs hb
      have e := sortA_is ss
      have r2 := rpa_unzip (F := F') (es := es) fun y hy => rpa_zip r1 y (pe.mem_iff.mp hy)
      rw [e] at p
      exact ((show PostE C F H Q (.ok _, δ) from p).mono st : ValP C F' H _ δ Q).list hs' np r2
    · cases e3
theorem je_sortT {i k : Nat} {x : Str} {pos p1 p2 : Pos} (hc : X.calm = true) (hr : Room k X.A) (hm : X.mg "sorted" = none) (hg : Gl X "sorted" := by rfl) (hN : X.N[i]? = some x := by rfl) (hv : Vis X.env.scope x := by first | exact .inl rfl | exact .inr (.inl rfl) | exact .inr (.inr rfl)) (hd : (x == ("__debug__" : Str)) = false := by decide) (hcd : (x == ("__classdict__" : Str)) = false := by decide)
    (he : starEach [.Name x p1] X.env = (false, eval (.Name x p1) X.env) :: starEach [] X.env := by rfl) (hpl : (backTo pos (starEach [] X.env)).any (·.1) = false := by rfl) : JE C X (.Call (.Name "sorted" p2) [.Name x p1] [] pos) (eSortT i) :=
  je (pe_callB (cr_sortDT hc (by have := Room.near hr; omega)) hg hm Boot.«sorted» (pa_cons (pe_var hN hv hd hcd) pa_nil he) (by decide) (by decide) he hpl) ev_sortT
end
end Lay

set_option Elab.async false
set_option linter.all false
set_option maxRecDepth 100000
set_option maxHeartbeats 4000000
/-! Rules for k02: dicts of lists of the frame's own: x.setdefault(k, []).append(e) -/
namespace Lay
open PySem PySem.Spec PyProof.Rows L2

def rSetdef : V → List V → Hp → VK → Prop := fun x xs H Q => ∃ (a : Addr) (ws : List (List L2.Key × V)) (k : List L2.Key) (b : Addr) (d : V), x = .ref a ∧ xs = [.ref b, d] ∧ H a = some (.dT ws) ∧ H b = some (.tup (k.map kV)) ∧ ws.length < sizeLine ∧
  (∀ v, valV ws k = some v → Q v H) ∧ (valV ws k = none → Q d (upd H a (.dT (putK ws k d))))
section
variable {X : Cx}
theorem mt_setdef (hu : X.A.units + 1 < cLine) : MtR X "dict.setdefault" rSetdef := by
  intro pins s σ H x xs v us Q I rx rxs h
  obtain ⟨a, ws, k, b, d, rfl, rfl, ha, hb, hl, q1, q2⟩ := h
  cases rx
  obtain ⟨u1, u2, rfl, r1, r2⟩ := vals2 rxs
  cases r1
  obtain ⟨z, hd, xs', rel, dd⟩ := dt_of I.hok ha
  have hz : xs'.length ≤ sizeLine := by rw [← Paired.length rel]; exact z
  have r := rel.val k
  refine call_setdefault_heap (hsz := hz) (tupleKind_room_in1 hu) (key_of I.hok hb) hd dd (fun p hp => ?_) fun hn h' dd' hs => ?_
  · rw [hp] at r
    obtain ⟨v0, ev, rv⟩ : ∃ v0, valV ws k = some v0 ∧ RelV v0 p.2 := by
      cases ev : valV ws k with
      | none => rw [ev] at r; exact (show False from r).elim
      | some v0 => rw [ev] at r; exact ⟨v0, rfl, r⟩
    exact ⟨v0, H, I.tok _, rv, q1 v0 ev⟩
  · rw [hn] at r
    have e : valV ws k = none := by
      cases ev : valV ws k with
      | none => rfl
      | some v0 => rw [ev] at r; exact (show False from r).elim
    obtain ⟨o, es, ep, hq, h2, h3, h4, _, h5⟩ := dd'
    have hl2 : (putK ws k d).length ≤ sizeLine := by have := length_putK ws k d; omega
    refine ⟨d, upd H a (.dT (putK ws k d)), d_write I (by rw [ha]; exact True.intro) hs ⟨o, hq⟩ ⟨hl2, hd, _, (rel.put k hb r2).keeps fun c ys ec => (by rw [upd_ne (ne_of ec ha (fun z => nomatch z))]; exact ec), o, es, ep, hq, h2, h3, h4, h5⟩, r2, q2 e⟩
end
/-! ### the plain side -/
def getL (ρ : En) (i : Nat) : Option (List (List Int × List D)) := match ρ[i]? with
  | some (some (.dL kvs)) => some kvs
  | _ => none
def setL (ρ : En) (i : Nat) (kvs : List (List Int × List D)) : En := ρ.set i (some (.dL kvs))
def valL : List (List Int × List D) → List Int → Option (List D)
  | [], _ => none
  | p :: r, k => if p.1 = k then some p.2 else valL r k
/-- at k's list's end; a new list at the end, if there is none -/
def addT : List (List Int × List D) → List Int → D → List (List Int × List D)
  | [], k, d => [(k, [d])]
  | p :: r, k, d => if p.1 = k then (p.1, p.2 ++ [d]) :: r else p :: addT r k d
/-- but data and dice -/
def onlyD : En → Bool
  | [] => true
  | none :: r => onlyD r
  | some (.v _) :: r => onlyD r
  | some .dice :: r => onlyD r
  | some _ :: _ => false
theorem onlyD_at : ∀ {ρ : En}, onlyD ρ = true → ∀ {i : Nat} {sv : SV}, ρ[i]? = some (some sv) → (∃ d, sv = .v d) ∨ sv = .dice
  | [], _, i, sv, e => by simp at e
  | none :: r, h, 0, _, e => by simp at e
  | none :: r, h, i + 1, _, e => onlyD_at (ρ := r) h (i := i) (by simpa using e)
  | some (.v _) :: r, h, 0, _, e => by simp at e; exact .inl ⟨_, e.symm⟩
  | some (.v _) :: r, h, i + 1, _, e => onlyD_at (ρ := r) h (i := i) (by simpa using e)
  | some .dice :: r, h, 0, _, e => by simp at e; exact .inr e.symm
  | some .dice :: r, h, i + 1, _, e => onlyD_at (ρ := r) h (i := i) (by simpa using e)
  | some (.own _) :: _, h, _, _, _ => by cases h
  | some (.dct _) :: _, h, _, _, _ => by cases h
  | some (.dT _) :: _, h, _, _, _ => by cases h
  | some (.dL _) :: _, h, _, _, _ => by cases h
/-! ### the rows of such a dict -/
section
variable {H0 F H : Hp}
theorem KvL.other {kvs : List (List Int × List D)} {ws : List (List L2.Key × V)} (r : KvL H0 F H kvs ws) {c : Addr} {o : HO} (h : ∀ q ∈ ws, q.2 ≠ .ref c) : KvL H0 F (upd H c o) kvs ws := by
  induction r with
  | nil => exact .nil
  | cons hq _ ih =>
    obtain ⟨e, b, vs, e2, h1, h2, h3, h4⟩ := hq
    refine .cons ⟨e, b, vs, e2, ?_, h2, h3, h4⟩ (ih fun q hq => h q (List.mem_cons_of_mem _ hq))
    rw [upd_ne (fun z => h _ List.mem_cons_self (by rw [e2, z]))]
    exact h1
theorem KvL.ne {kvs : List (List Int × List D)} {ws : List (List L2.Key × V)} (r : KvL H0 F H kvs ws) {c : Addr} (h : ∀ vs, H c ≠ some (.lst vs)) : ∀ q ∈ ws, q.2 ≠ .ref c := by
  induction r with
  | nil => intro q hq; cases hq
  | cons hq _ ih =>
    intro q hm
    rcases List.mem_cons.mp hm with rfl | hm
    · obtain ⟨e, b, vs, e2, h1, h2, h3, h4⟩ := hq
      intro z
      rw [e2] at z
      cases z
      exact h vs h1
    · exact ih q hm
theorem KvL.val {kvs : List (List Int × List D)} {ws : List (List L2.Key × V)} (r : KvL H0 F H kvs ws) {k : List Int} {v : V} (h : valV ws (keyI k) = some v) : ∃ ds c vs, valL kvs k = some ds ∧ v = .ref c ∧ H c = some (.lst vs) ∧ F c = none ∧ H0 c = none ∧ RpA F vs ds ∧ V.ref c ∈ ws.map (·.2) := by
  induction r with
  | nil => cases h
  | @cons p q _ _ hq _ ih =>
    obtain ⟨e, b, vs, e2, h1, h2, h3, h4⟩ := hq
    by_cases ek : p.1 = k
    · rw [valV_pos (by rw [e, ek])] at h
      refine ⟨p.2, b, vs, by unfold valL; rw [if_pos ek], ?_, h1, h2, h3, h4, ?_⟩
      · rw [← e2]; exact (Option.some.inj h).symm
      · rw [List.map_cons, ← e2]; exact List.mem_cons_self
    · rw [valV_neg (fun z => ek (keyI_inj (e.symm.trans z)))] at h
      obtain ⟨ds, c, vs', g1, g2, g3, g4, g5, g6, g7⟩ := ih h
      exact ⟨ds, c, vs', by unfold valL; rw [if_neg ek]; exact g1, g2, g3, g4, g5, g6, List.mem_cons_of_mem _ g7⟩
theorem KvL.app {kvs : List (List Int × List D)} {ws : List (List L2.Key × V)} (r : KvL H0 F H kvs ws) (nd : (ws.map (·.2)).Nodup) {k : List Int} {c : Addr} {vs : List V} {w : V} {d : D} (h : valV ws (keyI k) = some (.ref c)) (hc : H c = some (.lst vs)) (rw' : Rp F w d) : KvL H0 F (upd H c (.lst (vs ++ [w]))) (addT kvs k d) ws := by
  induction r with
  | nil => cases h
  | @cons p q ps qs hq hr ih =>
    rw [List.map_cons, List.nodup_cons] at nd
    obtain ⟨e, b, us, e2, h1, h2, h3, h4⟩ := hq
    unfold addT
    by_cases ek : p.1 = k
    · rw [valV_pos (by rw [e, ek])] at h
      have eb : b = c := by have := (Option.some.inj h).symm.trans e2; injection this with this; exact this.symm
      subst eb
      rw [hc] at h1
      cases h1
      rw [if_pos ek]
      exact .cons ⟨e, b, vs ++ [w], e2, upd_same, h2, h3, h4.append (.cons rw' .nil)⟩ (KvL.other hr fun x hx z => nd.1 (by rw [e2, ← z]; exact List.mem_map.mpr ⟨x, hx, rfl⟩))
    · rw [valV_neg (fun z => ek (keyI_inj (e.symm.trans z)))] at h
      rw [if_neg ek]
      obtain ⟨_, c', _, _, g2, _, _, _, _, g7⟩ := KvL.val hr h
      cases g2
      refine .cons ⟨e, b, us, e2, ?_, h2, h3, h4⟩ (ih nd.2 h)
      rw [upd_ne (fun z => nd.1 (by rw [e2, z]; exact g7))]
      exact h1
theorem KvL.new {kvs : List (List Int × List D)} {ws : List (List L2.Key × V)} (r : KvL H0 F H kvs ws) {k : List Int} {q : Addr} {w : V} {d : D} (h : valV ws (keyI k) = none) (hq : H q = some (.lst [w])) (f : F q = none) (n : H0 q = none) (rw' : Rp F w d) : KvL H0 F H (addT kvs k d) (ws ++ [(keyI k, .ref q)]) := by
  induction r with
  | nil => exact .cons ⟨rfl, q, [w], rfl, hq, f, n, .cons rw' .nil⟩ .nil
  | @cons p x ps qs hx hr ih =>
    by_cases ek : p.1 = k
    · rw [valV_pos (by rw [hx.1, ek])] at h; cases h
    · rw [valV_neg (fun z => ek (keyI_inj (hx.1.symm.trans z)))] at h
      unfold addT
      rw [if_neg ek]
      exact .cons hx (ih h)
end
section
variable {C : Ct}
theorem Rel.dL {σ : L2.St} {ρ : En} {F H : Hp} {δ : Dice} (R : Rel C σ ρ F H δ) {i : Nat} {kvs : List (List Int × List D)} (e : getL ρ i = some kvs) :
    ∃ a ws, σ[i]? = some (some (.ref a)) ∧ H a = some (.dT ws) ∧ F a = none ∧ C.H0 a = none ∧ a ≠ C.aD ∧ a ∉ C.G.tabs ∧ ρ[i]? = some (some (.dL kvs)) ∧ KvL C.H0 F H kvs ws ∧ (ws.map (·.2)).Nodup := by
  unfold getL at e
  split at e
  · rename_i z hz
    cases e
    obtain ⟨v, e1, a, ws, rfl, h1, h2, h3, h4, h5⟩ := R.sl i _ hz
    exact ⟨a, ws, e1, h1, h2, h3, fun z => R.h0.1 (by rw [← z]; exact h3), fun z => R.h0.2 a z h3, hz, h4, h5⟩
  · cases e
abbrev Bare (ρ : En) : Prop := ∀ (j : Nat) (sv : SV), ρ[j]? = some (some sv) → (∃ d, sv = .v d) ∨ sv = .dice
theorem Rel.bare {σ : L2.St} {ρ : En} {F H : Hp} {δ : Dice} (R : Rel C σ ρ F H δ) {i : Nat} {kvs : List (List Int × List D)} (e : ρ[i]? = some (some (.dL kvs))) : Rel C σ (Lay.clr ρ [i]) F H δ ∧ Bare (Lay.clr ρ [i]) :=
  ⟨R.clr [i], fun j sv ej => by
    obtain ⟨e1, e2⟩ := clr_some ej
    exact R.xl i kvs e j sv e1 (by simpa using e2)⟩
/-- something of the frame's own is changed -/
theorem Rel.writeB {σ : L2.St} {ρ : En} {F H : Hp} {δ : Dice} (R : Rel C σ ρ F H δ) (b : Bare ρ) {a : Addr} {o : HO} (f : F a = none) (n0 : C.H0 a = none) (nc : ∀ c q, H a ≠ some (LamX.CodeO c q)) : Rel C σ ρ F (upd H a o) δ := by
  have n1 : a ≠ C.aD := fun z => R.h0.1 (by rw [← z]; exact n0)
  have n2 : a ∉ C.G.tabs := fun z => R.h0.2 a z n0
  refine ⟨R.hs.own f n1 n2 nc, Step.own R.st n0, R.h0, R.len, fun j sv e => ?_, R.ap, R.xl⟩
  obtain ⟨v, e1, ok⟩ := R.sl j sv e
  refine ⟨v, e1, ?_⟩
  rcases b j sv e with ⟨d, rfl⟩ | rfl
  · exact ok
  · exact ok
theorem Rel.toL {σ : L2.St} {ρ : En} {F H : Hp} {δ : Dice} (R : Rel C σ ρ F H δ) (b : Bare ρ) {i : Nat} {a : Addr} {kvs : List (List Int × List D)} {ws : List (List L2.Key × V)} (hi : i < ρ.length) (ha : σ[i]? = some (some (.ref a))) (hd : H a = some (.dT ws)) (f : F a = none) (n0 : C.H0 a = none) (r : KvL C.H0 F H kvs ws) (nd : (ws.map (·.2)).Nodup) : Rel C σ (Lay.setL ρ i kvs) F H δ := by
  have at_ : ∀ {j : Nat} {sv : SV}, (Lay.setL ρ i kvs)[j]? = some (some sv) → (j = i ∧ sv = .dL kvs) ∨ (j ≠ i ∧ ρ[j]? = some (some sv)) := fun {j sv} e => by
    unfold Lay.setL at e
    by_cases hj : i = j
    · subst hj
      rw [List.getElem?_set_self hi] at e; cases e; exact .inl ⟨rfl, rfl⟩
    · rw [List.getElem?_set_ne hj] at e
      exact .inr ⟨fun z => hj z.symm, e⟩
  refine ⟨R.hs, R.st, R.h0, by unfold Lay.setL; rw [List.length_set]; exact R.len, fun j sv e => ?_, fun j k ds ds' x e1 e2 => ?_, fun j kv e k sv ek hk => ?_⟩
  · rcases at_ e with ⟨rfl, rfl⟩ | ⟨_, e⟩
    · exact ⟨_, ha, a, ws, rfl, hd, f, n0, r, nd⟩
    · exact R.sl j sv e
  · rcases at_ e1 with ⟨_, z⟩ | ⟨_, e⟩
    · cases z
    · rcases b j _ e with ⟨d, z⟩ | z <;> cases z
  · rcases at_ e with ⟨rfl, _⟩ | ⟨_, e⟩
    · rcases at_ ek with ⟨z, _⟩ | ⟨_, ek⟩
      · exact absurd z hk
      · exact b k sv ek
    · rcases b j _ e with ⟨d, z⟩ | z <;> cases z
end
/-- x = {} -/
def sLNew (i : Nat) : ST := fun ρ => if onlyD ρ = true ∧ i < ρ.length then M.pure (.nx (setL ρ i [])) else M.stuck
/-- x.setdefault(k, []).append(e) -/
def sSdApp (i : Nat) (a b : EX) : ST := fun ρ => match getL ρ i with
  | some kvs => M.bind (a (clr ρ [i])) fun y => match tupN y with
    | some k => if kvs.length < sizeLine ∧ ((valL kvs k).getD []).length < sizeLine then M.bind (b (clr ρ [i])) fun d => M.pure (.nx (setL (clr ρ [i]) i (addT kvs k d))) else M.stuck
    | none => M.stuck
  | none => M.stuck
/-- the dict's lists become data -/
def frzL (i : Nat) (ρ : En) : En := match getL ρ i with
  | some kvs => setT ρ i (kvs.map fun p => (p.1, .list p.2))
  | none => ρ
def sFrzL (i : Nat) (a : ST) : ST := fun ρ => a (frzL i ρ)
section
variable {C : Ct} {X : Cx} {ta tb : TE} {fa fb : EX}
theorem evs_lnew {i : Nat} : EvS C (tAsg tDNewT (gName i)) (sLNew i) := fun D' σ ρ F H δ r R e p => by
  unfold sLNew at e
  split at e
  case isFalse => cases e
  rename_i hL
  cases (Option.some.inj e).symm
  intro q nq
  obtain ⟨R2, fq, n0, n1, n2, st⟩ := new_T R nq
  have b : Bare ρ := fun j sv ej => onlyD_at hL.1 ej
  have il : i < σ.length := by rw [R.len]; exact hL.2
  refine p.nx ?_ (Ext.refl F)
  have R3 : Rel C (σ.set i (some (.ref q))) (Lay.clr ρ [i]) F (upd H q (.dT [])) δ := by
    have Rc := R2.clr [i]
    refine ⟨Rc.hs, Rc.st, Rc.h0, by rw [List.length_set]; exact Rc.len, fun j sv ej => ?_, fun j k ds ds' a e1 e2 => ?_, Rc.xl⟩
    · obtain ⟨v, e1, ok⟩ := Rc.sl j sv ej
      have hj : i ≠ j := fun z => (clr_some ej).2 (by rw [z]; exact List.mem_singleton.mpr rfl)
      exact ⟨v, by rw [List.getElem?_set_ne hj]; exact e1, ok⟩
    · rcases b j _ (clr_some e1).1 with ⟨d, z⟩ | z <;> cases z
  have := R3.toL (i := i) (a := q) (kvs := []) (ws := []) (fun j sv ej => b j sv (clr_some ej).1) (by rw [clr_length]; exact hL.2) (by rw [List.getElem?_set_self il]) upd_same fq n0 .nil List.nodup_nil
  have e2 : Lay.setL (Lay.clr ρ [i]) i [] = Lay.setL ρ i [] := by
    unfold Lay.setL Lay.clr Lay.clr
    rw [List.set_set]
  rw [e2] at this
  exact this
theorem evs_sdapp {K : PySem.W.Frag} {i : Nat} (ha : EvE C ta fa) (hb : EvE C tb fb) : EvS C (tDrop (tBM K "list" rAppend (tBM K "dict" rSetdef (tVar i) (tCons ta (tCons (tLst tNil) tNil))) (tCons tb tNil))) (sSdApp i fa fb) := fun D' σ ρ F H δ r R e p => by
  unfold sSdApp at e
  cases q : getL ρ i with
  | none => rw [q] at e; cases e
  | some kvs =>
    rw [q] at e
    dsimp only at e
    obtain ⟨a, ws, h1, h2, h3, h4, h6, h7, h8, h9, h10⟩ := R.dL q
    have hil : i < ρ.length := (List.getElem?_eq_some_iff.mp h8).1
    obtain ⟨Rc, bare⟩ := R.bare h8
    refine ⟨_, h1, .inr (.inr (.inl ⟨rfl, .inr ⟨ws, h2⟩⟩)), ?_⟩
    refine ha.then Rc e p.err fun y δ2 u F2 H2 e2 R2 s2 ry => ?_
    cases qy : tupN y with
    | none => rw [qy] at e2; cases e2
    | some k =>
      rw [qy] at e2
      dsimp only at e2
      obtain ⟨b, rfl, hb2⟩ := tup_back ry qy
      refine ⟨by rw [sizeLine_eq]; show 0 ≤ 16777216; omega, fun m nm => ?_⟩
      obtain ⟨R3, s3⟩ := new_O (o := .lst []) R2 nm
      have s23 := s2.trans s3
      have h2' := s23.keep a _ h2 h6 h7
      have f' := s23.new a _ h2 h6 h7 h3 (fun xs z => nomatch z)
      have r9 := h9.step s23 R.h0
      have hbk : (upd H2 m (.lst [])) b = some (.tup ((keyI k).map kV)) := by rw [keyI_V]; exact R3.hs.sub _ _ hb2
      have lw : ws.length = kvs.length := (Paired.length h9).symm
      have n0m : C.H0 m = none := by
        cases z : C.H0 m with
        | none => rfl
        | some o => exact absurd nm (R2.st.dom m (by rw [z]; exact fun z => nomatch z))
      have fm := R2.hs.fne nm
      split at e2
      case isFalse => cases e2
      rename_i hz
      refine ⟨a, ws, keyI k, b, .ref m, rfl, rfl, h2', hbk, by rw [lw]; exact hz.1, fun v hv => ?_, fun hn => ?_⟩
      · obtain ⟨ds, c, vs, g1, rfl, g3, g4, g5, g6, g7⟩ := r9.val hv
        have n1c : c ≠ C.aD := fun z => R.h0.1 (by rw [← z]; exact g5)
        have n2c : c ∉ C.G.tabs := fun z => R.h0.2 c z g5
        refine ⟨.inl ⟨rfl, vs, SqL.of g3⟩, ?_⟩
        refine hb.then R3 e2 p.err fun d δ3 w F4 H4 e4 R4 s4 rw' => ?_
        cases (Option.some.inj e4).symm
        have g3' := s4.keep c _ g3 n1c n2c
        refine ⟨c, vs, w, rfl, rfl, g3', by rw [g6.length]; have := hz.2; rw [g1] at this; exact this, ?_⟩
        have R5 := R4.writeB (o := .lst (vs ++ [w])) bare (s4.new c _ g3 n1c n2c g4 (fun xs z => nomatch z)) g5 (nc_list g3')
        have ha5 : (upd H4 c (.lst (vs ++ [w]))) a = some (.dT ws) := by
          rw [upd_ne (fun z => by rw [z, g3] at h2'; cases h2')]
          exact s4.keep a _ h2' h6 h7
        exact p.nx (R5.toL (i := i) bare (by rw [clr_length]; exact hil) h1 ha5 (s4.new a _ h2' h6 h7 f' (fun xs z => nomatch z)) h4 ((r9.step s4 R.h0).app h10 hv g3' rw') h10) ((s2.trans s3).trans s4).ex
      · have nma : m ≠ a := fun z => by rw [z, upd_same] at h2'; cases h2'
        rw [putK_new _ hn]
        have hm3 : (upd (upd H2 m (.lst [])) a (.dT (ws ++ [(keyI k, .ref m)]))) m = some (.lst []) := by rw [upd_ne nma, upd_same]
        have n1m : m ≠ C.aD := fun z => R.h0.1 (by rw [← z]; exact n0m)
        have n2m : m ∉ C.G.tabs := fun z => R.h0.2 m z n0m
        have R4 := R3.writeB (o := .dT (ws ++ [(keyI k, .ref m)])) bare f' h4 (nc_dt h2')
        refine ⟨.inl ⟨rfl, [], SqL.of hm3⟩, ?_⟩
        refine hb.then R4 e2 p.err fun d δ3 w F4 H4 e4 R5 s5 rw' => ?_
        cases (Option.some.inj e4).symm
        have hm5 := s5.keep m _ hm3 n1m n2m
        have fm5 := s5.new m _ hm3 n1m n2m fm (fun xs z => nomatch z)
        refine ⟨m, [], w, rfl, rfl, hm5, by rw [sizeLine_eq]; show 0 < 16777216; omega, ?_⟩
        have R6 := R5.writeB (o := .lst ([] ++ [w])) bare fm5 n0m (nc_list hm5)
        have da : (upd (upd H2 m (.lst [])) a (.dT (ws ++ [(keyI k, .ref m)]))) a = some (.dT (ws ++ [(keyI k, .ref m)])) := upd_same
        have hm6 : (upd H4 m (.lst ([] ++ [w]))) a = some (.dT (ws ++ [(keyI k, .ref m)])) := by
          rw [upd_ne nma.symm]
          exact s5.keep a _ da h6 h7
        have nem : ∀ x ∈ ws, x.2 ≠ .ref m := h9.step s2 R.h0 |>.ne fun vs z => by rw [nm] at z; cases z
        have r10 : KvL C.H0 F4 (upd H4 m (.lst ([] ++ [w]))) kvs ws := ((r9.other (o := .dT (ws ++ [(keyI k, .ref m)])) (r9.ne fun vs z => by rw [h2'] at z; cases z)).step s5 R.h0).other nem
        have nd2 : ((ws ++ [(keyI k, V.ref m)]).map (·.2)).Nodup := by
          rw [List.map_append, List.nodup_append]
          refine ⟨h10, by simp, fun x hx y hy z => ?_⟩
          obtain ⟨x', hx', rfl⟩ := List.mem_map.mp hx
          simp only [List.map_cons, List.map_nil, List.mem_singleton] at hy
          exact nem x' hx' (z.trans hy)
        exact p.nx (R6.toL (i := i) bare (by rw [clr_length]; exact hil) h1 hm6 (s5.new a _ da h6 h7 f' (fun xs z => nomatch z)) h4 (r10.new hn upd_same fm5 n0m rw') nd2) ((s2.trans s3).ex.trans s5.ex)
end
/-- the lists are frozen -/
theorem frzLs {F H : Hp} {δ : Dice} {C : Ct} (h0 : C.H0 C.aD ≠ none ∧ ∀ P ∈ C.G.tabs, C.H0 P ≠ none) {kvs : List (List Int × List D)} {ws : List (List L2.Key × V)} (hs : Hs C.G C.aD F H δ) (st : Step C.G C.aD C.F0 C.H0 F H) (r : KvL C.H0 F H kvs ws) : (ws.map (·.2)).Nodup →
    ∃ F', Ext F F' ∧ Hs C.G C.aD F' H δ ∧ Step C.G C.aD C.F0 C.H0 F' H ∧ KvR F' (kvs.map fun p => (p.1, .list p.2)) ws ∧ ∀ b, F b = none → (∀ q ∈ ws, q.2 ≠ .ref b) → F' b = none := by
  induction r with
  | nil => exact fun _ => ⟨F, Ext.refl F, hs, st, .nil, fun _ h _ => h⟩
  | @cons p q ps qs hq hr ih =>
    intro nd
    rw [List.map_cons, List.nodup_cons] at nd
    obtain ⟨F1, x1, hs1, st1, r1, n1⟩ := ih nd.2
    obtain ⟨e, b, vs, e2, g1, g2, g3, g4⟩ := hq
    have fb : F1 b = none := n1 b g2 fun x hx z => nd.1 (by rw [e2, ← z]; exact List.mem_map.mpr ⟨x, hx, rfl⟩)
    have m1 : b ≠ C.aD := fun z => h0.1 (by rw [← z]; exact g3)
    have m2 : b ∉ C.G.tabs := fun z => h0.2 b z g3
    have x2 : Ext F1 (upd F1 b (.lst vs)) := fun c o z => by rw [upd_ne (fun y => by rw [y, fb] at z; cases z)]; exact z
    refine ⟨upd F1 b (.lst vs), x1.trans x2, hs1.freeze g1 m1 m2, st1.freeze fb g3, .cons ⟨e, ?_⟩ (r1.mono x2), fun c hc hn => ?_⟩
    · rw [e2]
      exact .lst upd_same (RpA.mono (x1.trans x2) g4)
    · rw [upd_ne (fun y => hn _ List.mem_cons_self (by rw [e2, y]))]
      exact n1 c hc fun x hx => hn x (List.mem_cons_of_mem _ hx)
theorem Rel.frzL {C : Ct} {σ : L2.St} {ρ : En} {F H : Hp} {δ : Dice} (R : Rel C σ ρ F H δ) (i : Nat) : ∃ F', Ext F F' ∧ Rel C σ (Lay.frzL i ρ) F' H δ := by
  unfold Lay.frzL
  cases q : getL ρ i with
  | none => exact ⟨F, Ext.refl F, R⟩
  | some kvs =>
    obtain ⟨a, ws, h1, h2, h3, h4, h6, h7, h8, h9, h10⟩ := R.dL q
    obtain ⟨F', x, hs, st, r, n⟩ := frzLs R.h0 R.hs R.st h9 h10
    have hl : i < ρ.length := (List.getElem?_eq_some_iff.mp h8).1
    have ha : F' a = none := n a h3 (h9.ne fun vs z => by rw [h2] at z; cases z)
    have at_ : ∀ {j : Nat} {sv : SV}, (Lay.setT ρ i (kvs.map fun p => (p.1, .list p.2)))[j]? = some (some sv) → (j = i ∧ sv = .dT (kvs.map fun p => (p.1, .list p.2))) ∨ (j ≠ i ∧ ρ[j]? = some (some sv) ∧ ((∃ d, sv = .v d) ∨ sv = .dice)) := fun {j sv} e => by
      unfold Lay.setT at e
      by_cases hj : i = j
      · subst hj
        rw [List.getElem?_set_self hl] at e; cases e; exact .inl ⟨rfl, rfl⟩
      · rw [List.getElem?_set_ne hj] at e
        exact .inr ⟨fun z => hj z.symm, e, R.xl i kvs h8 j sv e (fun z => hj z.symm)⟩
    refine ⟨F', x, hs, st, R.h0, by unfold Lay.setT; rw [List.length_set]; exact R.len, fun j sv e => ?_, fun j k ds ds' y e1 e2 => ?_, fun j kv e => ?_⟩
    · rcases at_ e with ⟨rfl, rfl⟩ | ⟨_, e, z⟩
      · exact ⟨_, h1, a, ws, rfl, h2, ha, h4, r⟩
      · obtain ⟨v, e1, ok⟩ := R.sl j sv e
        refine ⟨v, e1, ?_⟩
        rcases z with ⟨d, rfl⟩ | rfl
        · exact Rp.mono x ok
        · exact ok
    · rcases at_ e1 with ⟨_, z⟩ | ⟨_, _, ⟨d, z⟩ | z⟩ <;> cases z
    · rcases at_ e with ⟨_, z⟩ | ⟨_, _, ⟨d, z⟩ | z⟩ <;> cases z
theorem evs_frzL {C : Ct} {t : TS} {f : ST} (i : Nat) (h1 : EvS C t f) : EvS C t (sFrzL i f) := fun D' σ ρ F H δ r R e p => by
  obtain ⟨F', x, R'⟩ := R.frzL i
  exact h1 D' σ _ F' H δ r R' e (p.mono x)
section
variable {C : Ct} {X : Cx} {a b c e : Expr} {fa fb fe : EX} {f : ST} {st : Stmt} {pos : Pos}
theorem js_frzL (i : Nat) (h1 : JS C X st f) : JS C X st (sFrzL i f) := js h1 (evs_frzL i evs_of)
theorem js_lnew {i : Nat} {x : Str} {pos pos' p2 : Pos} (nd : X.N.Nodup) (hi : X.N[i]? = some x := by rfl) (hx : Loc X.env.scope x := by first | exact .inl rfl | exact .inr rfl) (hs : swapsWith (.Dict [] [] p2) (some (.Name x pos')) pos.line X.env = pure false := by rfl) (hf : X.fn x = true ∨ X.env.scope.names.lookup x = some .local := by first | exact .inl rfl | exact .inr rfl) :
    JS C X (.Assign [.Name x pos'] (.Dict [] [] p2) pos) (sLNew i) := js (ps_set nd hi hx pe_dnewT hs hf) evs_lnew
theorem js_sdapp {i k : Nat} {x : Str} {p p2 p3 p4 p5 p6 : Pos} (hr : Room k X.A) (ha : JE C X a fa) (hb : JE C X b fb) (hN : X.N[i]? = some x := by rfl) (hv : Vis X.env.scope x := by first | exact .inl rfl | exact .inr (.inl rfl) | exact .inr (.inr rfl)) (hd : (x == ("__debug__" : Str)) = false := by decide) (hcd : (x == ("__classdict__" : Str)) = false := by decide)
    (hc : attributeBase (.Name x p) "setdefault" X.env (eval (.Name x p) X.env) = eval (.Name x p) X.env := by rfl)
    (hfew : ((backTo p3 (starEach [a, .List [] p4] X.env)).all (fun x => !x.1) && (backToKw p3 (keywordEach [] X.env)).all (fun x => x.1.isSome) && decide ([a, Expr.List [] p4].length + ([] : List Keyword).length + (if ([] : List Keyword).isEmpty then 0 else 1) < 30)) = true := by rfl)
    (hline : (p2.endLine == p3.line) = true := by rfl)
    (he : starEach [a, .List [] p4] X.env = (false, eval a X.env) :: starEach [.List [] p4] X.env := by rfl) (he2 : starEach [.List [] p4] X.env = (false, eval (.List [] p4) X.env) :: starEach [] X.env := by rfl) (hpl : (backTo p3 (starEach [.List [] p4] X.env)).any (·.1) = false := by rfl)
    (hc' : attributeBase (.Call (.Attribute (.Name x p) "setdefault" p2) [a, .List [] p4] [] p3) "append" X.env (eval (.Call (.Attribute (.Name x p) "setdefault" p2) [a, .List [] p4] [] p3) X.env) = eval (.Call (.Attribute (.Name x p) "setdefault" p2) [a, .List [] p4] [] p3) X.env := by rfl)
    (hfew' : ((backTo p6 (starEach [b] X.env)).all (fun x => !x.1) && (backToKw p6 (keywordEach [] X.env)).all (fun x => x.1.isSome) && decide ([b].length + ([] : List Keyword).length + (if ([] : List Keyword).isEmpty then 0 else 1) < 30)) = true := by rfl)
    (hline' : (p5.endLine == p6.line) = true := by rfl)
    (he' : starEach [b] X.env = (false, eval b X.env) :: starEach [] X.env := by rfl) (hpl' : (backTo p6 (starEach [] X.env)).any (·.1) = false := by rfl)
    (hs : swapsWith (.Call (.Attribute (.Call (.Attribute (.Name x p) "setdefault" p2) [a, .List [] p4] [] p3) "append" p5) [b] [] p6) none pos.line X.env = pure false := by rfl) :
    JS C X (.Expr (.Call (.Attribute (.Call (.Attribute (.Name x p) "setdefault" p2) [a, .List [] p4] [] p3) "append" p5) [b] [] p6) pos) (sSdApp i fa fb) :=
  js (ps_expr (pe_bm PySem.F.plainAttrs_list PySem.F.slot_list_append PySem.F.type_list_append mt_append (pe_bm PySem.F.plainAttrs_dict PySem.F.slot_dict_setdefault PySem.F.type_dict_setdefault (mt_setdef (by have := Room.near hr; omega)) (pe_var hN hv hd hcd) (pa_cons ha (pa_cons (pe_lst pa_nil) pa_nil he2) he) hc hfew hline he hpl) (pa_cons hb pa_nil he') hc' hfew' hline' he' hpl') hs) (evs_sdapp ev_of ev_of)
end
end Lay

set_option Elab.async false
set_option linter.all false
set_option maxRecDepth 100000
set_option maxHeartbeats 4000000
/-! Rules for k02: x = x + e, x a list of the frame's own -/
namespace Lay
open PySem PySem.Spec PyProof.Rows L2

def sAddO (i : Nat) (a : EX) : ST := fun ρ => match getO ρ i with
  | some ds => M.bind (a ρ) fun x => match x with
    | .list es => if ds.length + es.length ≤ sizeLine ∧ noL ρ = true then M.pure (.nx (setO ρ i (ds ++ es))) else M.stuck
    | _ => M.stuck
  | none => M.stuck
section
variable {C : Ct} {X : Cx} {ta : TE} {fa : EX}
theorem evs_addO {i : Nat} (ha : EvE C ta fa) : EvS C (tAsg (tOp rCat (tVar i) ta) (gName i)) (sAddO i fa) := fun D' σ ρ F H δ r R e p => by
  unfold sAddO at e
  cases q : getO ρ i with
  | none => rw [q] at e; cases e
  | some ds =>
    rw [q] at e
    dsimp only at e
    obtain ⟨a, vs, h1, h2, h3, h4, h5, h6, h7, h8⟩ := R.own q
    refine ⟨_, h1, ?_⟩
    refine ha.then R e p.err fun d δ1 v F1 H1 e1 R1 s1 rp => ?_
    cases rp with
    | @lst b us es g1 r1 =>
      dsimp only at e1
      split at e1
      case isFalse => cases e1
      rename_i hz
      cases (Option.some.inj e1).symm
      refine ⟨a, b, vs, us, rfl, rfl, s1.keep a _ h2 h6 h7, R1.hs.sub _ _ g1, by rw [h5.length, r1.length]; exact hz.1, fun m nm => ?_⟩
      exact p.nx (R1.newO nm ((h5.mono s1.ex).append r1) hz.2) s1.ex
    | _ => cases e1
variable {e : Expr} {fe : EX} {pos : Pos}
theorem js_addO {i : Nat} {x : Str} {pos' p2 p3 : Pos} (nd : X.N.Nodup) (ha : JE C X e fe) (hi : X.N[i]? = some x := by rfl) (hx : Loc X.env.scope x := by first | exact .inl rfl | exact .inr rfl) (hv : Vis X.env.scope x := by first | exact .inl rfl | exact .inr (.inl rfl) | exact .inr (.inr rfl)) (hd : (x == ("__debug__" : Str)) = false := by decide) (hcd : (x == ("__classdict__" : Str)) = false := by decide)
    (hs : swapsWith (.BinOp (.Name x p2) .Add e p3) (some (.Name x pos')) pos.line X.env = pure false := by rfl) (hf : X.fn x = true ∨ X.env.scope.names.lookup x = some .local := by first | exact .inl rfl | exact .inr rfl) :
    JS C X (.Assign [.Name x pos'] (.BinOp (.Name x p2) .Add e p3) pos) (sAddO i fe) := js (ps_set nd hi hx (pe_op op_cat (pe_var hi hv hd hcd) ha) hs hf) (evs_addO ev_of)
end
end Lay

set_option Elab.async false
set_option linter.all false
set_option maxRecDepth 100000
set_option maxHeartbeats 4000000
namespace Lay.K02
open PySem PySem.Spec PyProof.Rows L2 Lay
noncomputable section
def topS (i : Nat) : Stmt := PySem.Challenge.pw_benchclocks_k02_whole_bent.main.body.getD i (.Pass ⟨0, 0, 0, 0⟩)
def sx_is_integer : {s : Stmt // s = topS 3} := by
  refine ⟨?s, ?e⟩
  case e => (conv => rhs; whnf)
abbrev st_is_integer : Stmt := sx_is_integer.1
def sx_need_integer : {s : Stmt // s = topS 4} := by
  refine ⟨?s, ?e⟩
  case e => (conv => rhs; whnf)
abbrev st_need_integer : Stmt := sx_need_integer.1
def sx_is_wheel : {s : Stmt // s = topS 8} := by
  refine ⟨?s, ?e⟩
  case e => (conv => rhs; whnf)
abbrev st_is_wheel : Stmt := sx_is_wheel.1
def sx_is_train : {s : Stmt // s = topS 9} := by
  refine ⟨?s, ?e⟩
  case e => (conv => rhs; whnf)
abbrev st_is_train : Stmt := sx_is_train.1
def sx_need_train : {s : Stmt // s = topS 10} := by
  refine ⟨?s, ?e⟩
  case e => (conv => rhs; whnf)
abbrev st_need_train : Stmt := sx_need_train.1
def sx_places_at : {s : Stmt // s = topS 11} := by
  refine ⟨?s, ?e⟩
  case e => (conv => rhs; whnf)
abbrev st_places_at : Stmt := sx_places_at.1
def sx_are_ticks : {s : Stmt // s = topS 16} := by
  refine ⟨?s, ?e⟩
  case e => (conv => rhs; whnf)
abbrev st_are_ticks : Stmt := sx_are_ticks.1
def sx_need_ticks : {s : Stmt // s = topS 17} := by
  refine ⟨?s, ?e⟩
  case e => (conv => rhs; whnf)
abbrev st_need_ticks : Stmt := sx_need_ticks.1
def sx_is_bend : {s : Stmt // s = topS 18} := by
  refine ⟨?s, ?e⟩
  case e => (conv => rhs; whnf)
abbrev st_is_bend : Stmt := sx_is_bend.1
def sx_are_bends : {s : Stmt // s = topS 19} := by
  refine ⟨?s, ?e⟩
  case e => (conv => rhs; whnf)
abbrev st_are_bends : Stmt := sx_are_bends.1
def sx_lengths : {s : Stmt // s = topS 20} := by
  refine ⟨?s, ?e⟩
  case e => (conv => rhs; whnf)
abbrev st_lengths : Stmt := sx_lengths.1
def sx_working : {s : Stmt // s = topS 21} := by
  refine ⟨?s, ?e⟩
  case e => (conv => rhs; whnf)
abbrev st_working : Stmt := sx_working.1
def sx_single : {s : Stmt // s = topS 22} := by
  refine ⟨?s, ?e⟩
  case e => (conv => rhs; whnf)
abbrev st_single : Stmt := sx_single.1
def sx_double : {s : Stmt // s = topS 23} := by
  refine ⟨?s, ?e⟩
  case e => (conv => rhs; whnf)
abbrev st_double : Stmt := sx_double.1
def sx_explanations : {s : Stmt // s = topS 24} := by
  refine ⟨?s, ?e⟩
  case e => (conv => rhs; whnf)
abbrev st_explanations : Stmt := sx_explanations.1
def sx_surely_bent : {s : Stmt // s = topS 25} := by
  refine ⟨?s, ?e⟩
  case e => (conv => rhs; whnf)
abbrev st_surely_bent : Stmt := sx_surely_bent.1
def sx_round_error : {s : Stmt // s = topS 26} := by
  refine ⟨?s, ?e⟩
  case e => (conv => rhs; whnf)
abbrev st_round_error : Stmt := sx_round_error.1
def sx_greatest : {s : Stmt // s = topS 27} := by
  refine ⟨?s, ?e⟩
  case e => (conv => rhs; whnf)
abbrev st_greatest : Stmt := sx_greatest.1
def sx__law_dice : {s : Stmt // s = topS 29} := by
  refine ⟨?s, ?e⟩
  case e => (conv => rhs; whnf)
abbrev st__law_dice : Stmt := sx__law_dice.1
def sx__law_roll : {s : Stmt // s = topS 30} := by
  refine ⟨?s, ?e⟩
  case e => (conv => rhs; whnf)
abbrev st__law_roll : Stmt := sx__law_roll.1
def sx__law_pick : {s : Stmt // s = topS 31} := by
  refine ⟨?s, ?e⟩
  case e => (conv => rhs; whnf)
abbrev st__law_pick : Stmt := sx__law_pick.1
def sx__law_refused : {s : Stmt // s = topS 32} := by
  refine ⟨?s, ?e⟩
  case e => (conv => rhs; whnf)
abbrev st__law_refused : Stmt := sx__law_refused.1
def sx__law_train : {s : Stmt // s = topS 33} := by
  refine ⟨?s, ?e⟩
  case e => (conv => rhs; whnf)
abbrev st__law_train : Stmt := sx__law_train.1
def sx__law_places : {s : Stmt // s = topS 34} := by
  refine ⟨?s, ?e⟩
  case e => (conv => rhs; whnf)
abbrev st__law_places : Stmt := sx__law_places.1
def sx__law_cycle : {s : Stmt // s = topS 35} := by
  refine ⟨?s, ?e⟩
  case e => (conv => rhs; whnf)
abbrev st__law_cycle : Stmt := sx__law_cycle.1
def sx__law_lengths : {s : Stmt // s = topS 36} := by
  refine ⟨?s, ?e⟩
  case e => (conv => rhs; whnf)
abbrev st__law_lengths : Stmt := sx__law_lengths.1
def sx__law_lots : {s : Stmt // s = topS 37} := by
  refine ⟨?s, ?e⟩
  case e => (conv => rhs; whnf)
abbrev st__law_lots : Stmt := sx__law_lots.1
def sx__law_right : {s : Stmt // s = topS 38} := by
  refine ⟨?s, ?e⟩
  case e => (conv => rhs; whnf)
abbrev st__law_right : Stmt := sx__law_right.1
def sx_law : {s : Stmt // s = topS 39} := by
  refine ⟨?s, ?e⟩
  case e => (conv => rhs; whnf)
abbrev st_law : Stmt := sx_law.1
/-- what the top has written -/
structure Txt (P : Program) (w : World) (K : PySem.W.Frag) (mg : Str → Option Value) (base : Heap) where
  CB : Addr
  lt : Addr
  k_is_integer : Addr
  k_need_integer : Addr
  k_is_wheel : Addr
  k_is_train : Addr
  k_need_train : Addr
  k_places_at : Addr
  k_are_ticks : Addr
  k_need_ticks : Addr
  k_is_bend : Addr
  k_are_bends : Addr
  k_lengths : Addr
  k_working : Addr
  k_single : Addr
  k_double : Addr
  k_explanations : Addr
  k_surely_bent : Addr
  k_round_error : Addr
  k_greatest : Addr
  k__law_dice : Addr
  k__law_roll : Addr
  k__law_pick : Addr
  k__law_refused : Addr
  k__law_train : Addr
  k__law_places : Addr
  k__law_cycle : Addr
  k__law_lengths : Addr
  k__law_lots : Addr
  k__law_right : Addr
  k_law : Addr
  p_is_wheel : Addr
  p_is_train : Addr
  p_are_ticks : Addr
  p_is_bend : Addr
  p_are_bends : Addr
  d_is_integer : DefAt K mg "is_integer" st_is_integer k_is_integer
  d_need_integer : DefAt K mg "need_integer" st_need_integer k_need_integer
  d_is_wheel : DefAt K mg "is_wheel" st_is_wheel k_is_wheel
  d_is_train : DefAt K mg "is_train" st_is_train k_is_train
  d_need_train : DefAt K mg "need_train" st_need_train k_need_train
  d_places_at : DefAt K mg "places_at" st_places_at k_places_at
  d_are_ticks : DefAt K mg "are_ticks" st_are_ticks k_are_ticks
  d_need_ticks : DefAt K mg "need_ticks" st_need_ticks k_need_ticks
  d_is_bend : DefAt K mg "is_bend" st_is_bend k_is_bend
  d_are_bends : DefAt K mg "are_bends" st_are_bends k_are_bends
  d_lengths : DefAt K mg "lengths" st_lengths k_lengths
  d_working : DefAt K mg "working" st_working k_working
  d_single : DefAt K mg "single" st_single k_single
  d_double : DefAt K mg "double" st_double k_double
  d_explanations : DefAt K mg "explanations" st_explanations k_explanations
  d_surely_bent : DefAt K mg "surely_bent" st_surely_bent k_surely_bent
  d_round_error : DefAt K mg "round_error" st_round_error k_round_error
  d_greatest : DefAt K mg "greatest" st_greatest k_greatest
  d__law_dice : DefAt K mg "_law_dice" st__law_dice k__law_dice
  d__law_roll : DefAt K mg "_law_roll" st__law_roll k__law_roll
  d__law_pick : DefAt K mg "_law_pick" st__law_pick k__law_pick
  d__law_refused : DefAt K mg "_law_refused" st__law_refused k__law_refused
  d__law_train : DefAt K mg "_law_train" st__law_train k__law_train
  d__law_places : DefAt K mg "_law_places" st__law_places k__law_places
  d__law_cycle : DefAt K mg "_law_cycle" st__law_cycle k__law_cycle
  d__law_lengths : DefAt K mg "_law_lengths" st__law_lengths k__law_lengths
  d__law_lots : DefAt K mg "_law_lots" st__law_lots k__law_lots
  d__law_right : DefAt K mg "_law_right" st__law_right k__law_right
  d_law : DefAt K mg "law" st_law k_law
  bad : BadX P w K mg base "BadArgument" CB
  seen : SeenX K CB
  t_is_wheel : LamX.TabB base mg k_is_wheel p_is_wheel
  l_is_wheel : p_is_wheel ≠ lt
  t_is_train : LamX.TabB base mg k_is_train p_is_train
  l_is_train : p_is_train ≠ lt
  t_are_ticks : LamX.TabB base mg k_are_ticks p_are_ticks
  l_are_ticks : p_are_ticks ≠ lt
  t_is_bend : LamX.TabB base mg k_is_bend p_is_bend
  l_is_bend : p_is_bend ≠ lt
  t_are_bends : LamX.TabB base mg k_are_bends p_are_bends
  l_are_bends : p_are_bends ≠ lt
  t__law_right : LamX.TabB base mg k__law_right lt
  n_abs : mg "abs" = none
  n_all : mg "all" = none
  n_bool : mg "bool" = none
  n_int : mg "int" = none
  n_isinstance : mg "isinstance" = none
  n_len : mg "len" = none
  n_max : mg "max" = none
  n_min : mg "min" = none
  n_range : mg "range" = none
  n_sorted : mg "sorted" = none
  n_sum : mg "sum" = none
  n_tuple : mg "tuple" = none
  n_zip : mg "zip" = none
  c_MOST_BENT : ∃ u, mg "MOST_BENT" = some u ∧ RelV (.int 2) u
  c_MOST_LENGTH : ∃ u, mg "MOST_LENGTH" = some u ∧ RelV (.int 1000000) u
  c_MOST_TEETH : ∃ u, mg "MOST_TEETH" = some u ∧ RelV (.int 60) u
  c_MOST_TICKS : ∃ u, mg "MOST_TICKS" = some u ∧ RelV (.int 120) u
  c_MOST_WHEELS : ∃ u, mg "MOST_WHEELS" = some u ∧ RelV (.int 6) u
variable {P : Program} {w : World} {K : PySem.W.Frag} {mg : Str → Option Value} {base : Heap}
abbrev Txt.G (T : Txt P w K mg base) : Gt := ⟨K, T.CB, [T.p_is_wheel, T.p_is_train, T.p_are_ticks, T.p_is_bend, T.p_are_bends, T.lt], T.lt, "_law_right" ++ ".<locals>." ++ "<lambda>"⟩
theorem sc__law_refused : FnScope ["call", "e"] ["call"] (defScope st__law_refused) := ⟨rfl, rfl, rfl, by decide +kernel, rfl, by decide +kernel, by decide +kernel⟩
theorem sc__law_roll : FnScope ["dice", "many", "found"] ["dice", "many"] (defScope st__law_roll) := ⟨rfl, rfl, rfl, by decide +kernel, rfl, by decide +kernel, by decide +kernel⟩
def m__law_roll : List D → M D := m_roll
theorem okf__law_roll (T : Txt P w K mg base) : CalF P w K mg base 1 "_law_roll" st__law_roll ["dice", "many"] (spD T.G m_roll) := roll_ok T.d__law_roll sc__law_roll fun f A outer s H E =>
  pss_cons (ps_if (pt_cmpR op_gt (pe_ix ix_list (pe_var (i := 0) rfl (.inl rfl)) pe_int (fun _ _ => rfl)) pe_int (nomark _))
      (pss_cons (ps_set (i := 2) sc__law_roll.nd rfl (.inl rfl) (pe_op op_modN (pe_callTy call_int1 rfl T.n_int Boot.«int» (pa_cons (pe_ix ix_list (pe_var (i := 0) rfl (.inl rfl)) pe_int (fun _ _ => rfl)) pa_nil)) (pe_var (i := 1) rfl (.inl rfl))))
        (pss_cons (ps_asg (pe_op op_fdivN (pe_ix ix_list (pe_var (i := 0) rfl (.inl rfl)) pe_int (fun _ _ => rfl)) (pe_var (i := 1) rfl (.inl rfl))) (pg_sub (pe_var (i := 0) rfl (.inl rfl)) pe_int set_list)) (pss_one (ps_ret (pe_var (i := 2) rfl (.inl rfl)))))) pss_nil)
    (pss_cons (ps_asg (pe_op op_add (pe_ix ix_list (pe_var (i := 0) rfl (.inl rfl)) pe_int (fun _ _ => rfl)) pe_int) (pg_sub (pe_var (i := 0) rfl (.inl rfl)) pe_int set_list))
      (pss_cons (ps_asg (pe_op op_modN (pe_callTy call_int1 rfl T.n_int Boot.«int» (pa_cons (pe_op op_add (pe_op op_add (pe_op op_mul (pe_ix ix_list (pe_var (i := 0) rfl (.inl rfl)) pe_int (fun _ _ => rfl)) pe_int)
          (pe_op op_mul (pe_op op_mul (pe_ix ix_list (pe_var (i := 0) rfl (.inl rfl)) pe_int (fun _ _ => rfl)) (pe_ix ix_list (pe_var (i := 0) rfl (.inl rfl)) pe_int (fun _ _ => rfl))) pe_int)) pe_int) pa_nil)) pe_int) (pg_sub (pe_var (i := 0) rfl (.inl rfl)) pe_int set_list))
        (pss_one (ps_ret (pe_op op_modN (pe_callTy call_int1 rfl T.n_int Boot.«int» (pa_cons (pe_op op_fdivN (pe_ix ix_list (pe_var (i := 0) rfl (.inl rfl)) pe_int (fun _ _ => rfl)) pe_int) pa_nil)) (pe_var (i := 1) rfl (.inl rfl)))))))
theorem ok__law_roll (T : Txt P w K mg base) : CalX P w K mg base 1 "_law_roll" (spD T.G m__law_roll) := (okf__law_roll T).call fun _ _ _ _ _ _ us hl => match us, hl with | [_, _], _ => rfl

/-- slots: 0 value -/
def b_is_integer : ST := (sRet (eAnd (eCallB (dIsi "int") (lCons (eVar 0) lNil)) (eNot (eCallB (dIsi "bool") (lCons (eVar 0) lNil)))))
def m_is_integer : List D → M D := mkF 1 1 b_is_integer
theorem sc_is_integer : FnScope ["value"] ["value"] (defScope st_is_integer) := ⟨rfl, rfl, rfl, by decide +kernel, rfl, by decide +kernel, by decide +kernel⟩
theorem okf_is_integer (T : Txt P w K mg base) : CalF P w K mg base 1 "is_integer" st_is_integer ["value"] (spX T.G m_is_integer) :=
  def_ok T.d_is_integer sc_is_integer (b := b_is_integer) (fun f A outer s aD F H E hr => (jss_one (js_ret (je_and (je_isi (T := "int") (by decide) T.n_isinstance T.n_int Boot.«int» (je_var (i := 0))) (je_one (je_not (je_isi (T := "bool") (by decide) T.n_isinstance T.n_bool Boot.«bool» (je_var (i := 0))))))))) (by decide)
theorem ok_is_integer (T : Txt P w K mg base) : CalX P w K mg base 1 "is_integer" (spX T.G m_is_integer) := (okf_is_integer T).call fun _ _ _ _ _ _ us hl => match us, hl with | [_], _ => rfl
/-- slots: 0 value, 1 name, 2 least, 3 most -/
def b_need_integer : ST := (sIf (bOr (bNot (bOf (eCall m_is_integer (lCons (eVar 0) lNil)))) (bOr (bOf (eBin dLt (eVar 0) (eVar 2))) (bOf (eBin dGt (eVar 0) (eVar 3))))) (sRaise (eVar 1)) sNop)
def m_need_integer : List D → M D := mkF 4 4 b_need_integer
theorem sc_need_integer : FnScope ["value", "name", "least", "most"] ["value", "name", "least", "most"] (defScope st_need_integer) := ⟨rfl, rfl, rfl, by decide +kernel, rfl, by decide +kernel, by decide +kernel⟩
theorem okf_need_integer (T : Txt P w K mg base) : CalF P w K mg base 3 "need_integer" st_need_integer ["value", "name", "least", "most"] (spX T.G m_need_integer) :=
  def_ok T.d_need_integer sc_need_integer (b := b_need_integer) (fun f A outer s aD F H E hr => (jss_one (js_if (JW.pt (jt_orc (jt_not (jt_val (je_call (ok_is_integer T) hr px_of (ja_cons (je_var (i := 0)) ja_nil)))) (jt_orc (jt_cmp op_lt raw_lt (je_var (i := 0)) (je_var (i := 2)) (nomark _)) (jt_or1 (jt_cmp op_gt raw_gt (je_var (i := 0)) (je_var (i := 3)) (nomark _)))))) (jss_one (js_raise T.bad rfl tk_of passL hr (je_var (i := 1)))) jss_nil))) (by decide)
theorem ok_need_integer (T : Txt P w K mg base) : CalX P w K mg base 3 "need_integer" (spX T.G m_need_integer) := (okf_need_integer T).call fun _ _ _ _ _ _ us hl => match us, hl with | [_, _, _, _], _ => rfl
/-- slots: 0 value, 1 one -/
def s_is_wheel_1 : ST := (sIf (bOr (bNot (bOf (eCallB (dIsi "tuple") (lCons (eVar 0) lNil)))) (bOr (bOf (eBin dNe (eCallB dLen (lCons (eVar 0) lNil)) (eC (.int 2)))) (bNot (bOf (eAll (.n 0) (itS (eVar 0)) (eCall m_is_integer (lCons (eVar 0) lNil)) [] 1))))) (sRet (eC (.bool false))) sNop)
def s_is_wheel_2 : ST := (sRet (eAnd (eChain dLe dLe (eC (.int 2)) (eBin dIx (eVar 0) (eC (.int 0))) (eC (.int 60))) (eChain dLe dLt (eC (.int 1)) (eBin dIx (eVar 0) (eC (.int 1))) (eBin dIx (eVar 0) (eC (.int 0))))))
def b_is_wheel : ST := (sSeq s_is_wheel_1 s_is_wheel_2)
def m_is_wheel : List D → M D := mkF 1 2 b_is_wheel
theorem sc_is_wheel : FnScope ["value", "one"] ["value"] (defScope st_is_wheel) := ⟨rfl, rfl, rfl, by decide +kernel, rfl, by decide +kernel, by decide +kernel⟩
theorem okf_is_wheel (T : Txt P w K mg base) : CalF P w K mg base 4 "is_wheel" st_is_wheel ["value"] (spX T.G m_is_wheel) :=
  def_ok T.d_is_wheel sc_is_wheel (b := b_is_wheel) (fun f A outer s aD F H E hr => (jss_cons (js_if (JW.pt (jt_orc (jt_not (jt_val (je_isi (T := "tuple") (by decide) T.n_isinstance T.n_tuple Boot.«tuple» (je_var (i := 0))))) (jt_orc (jt_cmp (op_neD (Room.near64 hr)) raw_ne (je_callB call_len_seq raw_len T.n_len Boot.«len» (ja_cons (je_var (i := 0)) ja_nil)) je_int (nomark _)) (jt_or1 (jt_not (jt_val (je_all (k := 1) (N' := ["one"]) (cap := []) rfl hr T.n_all T.t_is_wheel rfl (by simp [Txt.G]) T.l_is_wheel (GX.gx_by (by (dsimp +instances only [cxOf, Cx.blk, envOfC, compEnvC, GX.gxCx, genEnv, LamX.lamCx, LamX.lamEnv, relabel, Env.kindOf]; decide +kernel))) (ji_seq (je_var (i := 0))) (fun _ _ _ _ _ _ _ _ hrg => (jg_name (i := 0) (show List.Nodup (["one"] : List Str) by decide +kernel))) (fun _ _ _ _ _ _ _ _ hrg => (je_call (ok_is_integer T) hrg passL (ja_cons (je_var (i := 0)) ja_nil))) (by decide +kernel)))))))) (jss_one (js_ret je_bl)) jss_nil) (jss_one (js_ret (je_and (je_chain op_le raw_le op_le raw_le je_int (je_ix (je_var (i := 0)) je_int) (je_num T.c_MOST_TEETH)) (je_one (je_chain op_le raw_le op_lt raw_lt je_int (je_ix (je_var (i := 0)) je_int) (je_ix (je_var (i := 0)) je_int)))))))) (by decide)
theorem ok_is_wheel (T : Txt P w K mg base) : CalX P w K mg base 4 "is_wheel" (spX T.G m_is_wheel) := (okf_is_wheel T).call fun _ _ _ _ _ _ us hl => match us, hl with | [_], _ => rfl
/-- slots: 0 value, 1 one -/
def b_is_train : ST := (sRet (eAnd (eCallB (dIsi "tuple") (lCons (eVar 0) lNil)) (eAnd (eChain dLe dLe (eC (.int 1)) (eCallB dLen (lCons (eVar 0) lNil)) (eC (.int 6))) (eAll (.n 0) (itS (eVar 0)) (eCall m_is_wheel (lCons (eVar 0) lNil)) [] 1))))
def m_is_train : List D → M D := mkF 1 2 b_is_train
theorem sc_is_train : FnScope ["value", "one"] ["value"] (defScope st_is_train) := ⟨rfl, rfl, rfl, by decide +kernel, rfl, by decide +kernel, by decide +kernel⟩
theorem okf_is_train (T : Txt P w K mg base) : CalF P w K mg base 7 "is_train" st_is_train ["value"] (spX T.G m_is_train) :=
  def_ok T.d_is_train sc_is_train (b := b_is_train) (fun f A outer s aD F H E hr => (jss_one (js_ret (je_and (je_isi (T := "tuple") (by decide) T.n_isinstance T.n_tuple Boot.«tuple» (je_var (i := 0))) (je_and (je_chain op_le raw_le op_le raw_le je_int (je_callB call_len_seq raw_len T.n_len Boot.«len» (ja_cons (je_var (i := 0)) ja_nil)) (je_num T.c_MOST_WHEELS)) (je_one (je_all (k := 4) (N' := ["one"]) (cap := []) rfl hr T.n_all T.t_is_train rfl (by simp [Txt.G]) T.l_is_train (GX.gx_by (by (dsimp +instances only [cxOf, Cx.blk, envOfC, compEnvC, GX.gxCx, genEnv, LamX.lamCx, LamX.lamEnv, relabel, Env.kindOf]; decide +kernel))) (ji_seq (je_var (i := 0))) (fun _ _ _ _ _ _ _ _ hrg => (jg_name (i := 0) (show List.Nodup (["one"] : List Str) by decide +kernel))) (fun _ _ _ _ _ _ _ _ hrg => (je_call (ok_is_wheel T) hrg passL (ja_cons (je_var (i := 0)) ja_nil))) (by decide +kernel)))))))) (by decide)
theorem ok_is_train (T : Txt P w K mg base) : CalX P w K mg base 7 "is_train" (spX T.G m_is_train) := (okf_is_train T).call fun _ _ _ _ _ _ us hl => match us, hl with | [_], _ => rfl
/-- slots: 0 value, 1 name -/
def b_need_train : ST := (sIf (bNot (bOf (eCall m_is_train (lCons (eVar 0) lNil)))) (sRaise (eVar 1)) sNop)
def m_need_train : List D → M D := mkF 2 2 b_need_train
theorem sc_need_train : FnScope ["value", "name"] ["value", "name"] (defScope st_need_train) := ⟨rfl, rfl, rfl, by decide +kernel, rfl, by decide +kernel, by decide +kernel⟩
theorem okf_need_train (T : Txt P w K mg base) : CalF P w K mg base 8 "need_train" st_need_train ["value", "name"] (spX T.G m_need_train) :=
  def_ok T.d_need_train sc_need_train (b := b_need_train) (fun f A outer s aD F H E hr => (jss_one (js_if (jt_not (jt_val (je_call (ok_is_train T) hr px_of (ja_cons (je_var (i := 0)) ja_nil)))) (jss_one (js_raise T.bad rfl tk_of passL hr (je_var (i := 1)))) jss_nil))) (by decide)
theorem ok_need_train (T : Txt P w K mg base) : CalX P w K mg base 8 "need_train" (spX T.G m_need_train) := (okf_need_train T).call fun _ _ _ _ _ _ us hl => match us, hl with | [_, _], _ => rfl
/-- slots: 0 train, 1 beat, 2 teeth, 3 step -/
def b_places_at : ST := (sRet (eCallB dTuple (lCons (eComp (.t ((.n 2) :: ((.n 3) :: []))) (itS (eVar 0)) bYes (eBin dMod (eBin dMulB (eVar 1) (eVar 3)) (eVar 2)) [2, 3]) lNil)))
def m_places_at : List D → M D := mkF 2 4 b_places_at
theorem sc_places_at : FnScope ["train", "beat", "teeth", "step"] ["train", "beat"] (defScope st_places_at) := ⟨rfl, rfl, rfl, by decide +kernel, rfl, by decide +kernel, by decide +kernel⟩
theorem okf_places_at (T : Txt P w K mg base) : CalF P w K mg base 1 "places_at" st_places_at ["train", "beat"] (spX T.G m_places_at) :=
  def_ok T.d_places_at sc_places_at (b := b_places_at) (fun f A outer s aD F H E hr => (jss_one (js_ret (je_callT call_tuple_of raw_tuple T.n_tuple Boot.«tuple» (ja_cons (je_lc (own := [("teeth", 2), ("step", 3)]) rfl sc_places_at.nd (ji_seq (je_var (i := 0))) (blkOk_by (by (dsimp +instances only [cxOf, Cx.blk, envOfC, compEnvC, GX.gxCx, genEnv, LamX.lamCx, LamX.lamEnv, relabel, Env.kindOf]; decide +kernel))) (fun _ _ _ _ _ => (jg_tup rfl (jgs_cons (jg_name (i := 2) sc_places_at.nd) (jgs_cons (jg_name (i := 3) sc_places_at.nd) jgs_nil)))) (fun _ _ _ _ _ => jts_nil) (fun _ _ _ _ _ => (je_bin op_modN raw_mod (je_bin op_mulB raw_mulB (je_var (i := 1)) (je_var (i := 3))) (je_var (i := 2)))) (by decide +kernel)) ja_nil))))) (by decide)
theorem ok_places_at (T : Txt P w K mg base) : CalX P w K mg base 1 "places_at" (spX T.G m_places_at) := (okf_places_at T).call fun _ _ _ _ _ _ us hl => match us, hl with | [_, _], _ => rfl
/-- slots: 0 value, 1 one -/
def s_are_ticks_1 : ST := (sIf (bOr (bNot (bOf (eCallB (dIsi "tuple") (lCons (eVar 0) lNil)))) (bOf (eBin dGt (eCallB dLen (lCons (eVar 0) lNil)) (eC (.int 120))))) (sRet (eC (.bool false))) sNop)
def s_are_ticks_2 : ST := (sRet (eAll (.n 0) (itS (eVar 0)) (eAnd (eCall m_is_integer (lCons (eVar 0) lNil)) (eBin dLe (eCallB dAbs (lCons (eVar 0) lNil)) (eC (.int 1000000)))) [] 1))
def b_are_ticks : ST := (sSeq s_are_ticks_1 s_are_ticks_2)
def m_are_ticks : List D → M D := mkF 1 2 b_are_ticks
theorem sc_are_ticks : FnScope ["value", "one"] ["value"] (defScope st_are_ticks) := ⟨rfl, rfl, rfl, by decide +kernel, rfl, by decide +kernel, by decide +kernel⟩
theorem okf_are_ticks (T : Txt P w K mg base) : CalF P w K mg base 4 "are_ticks" st_are_ticks ["value"] (spX T.G m_are_ticks) :=
  def_ok T.d_are_ticks sc_are_ticks (b := b_are_ticks) (fun f A outer s aD F H E hr => (jss_cons (js_if (JW.pt (jt_orc (jt_not (jt_val (je_isi (T := "tuple") (by decide) T.n_isinstance T.n_tuple Boot.«tuple» (je_var (i := 0))))) (jt_or1 (jt_cmp op_gt raw_gt (je_callB call_len_seq raw_len T.n_len Boot.«len» (ja_cons (je_var (i := 0)) ja_nil)) (je_num T.c_MOST_TICKS) (nomark _))))) (jss_one (js_ret je_bl)) jss_nil) (jss_one (js_ret (je_all (k := 1) (N' := ["one"]) (cap := []) rfl hr T.n_all T.t_are_ticks rfl (by simp [Txt.G]) T.l_are_ticks (GX.gx_by (by (dsimp +instances only [cxOf, Cx.blk, envOfC, compEnvC, GX.gxCx, genEnv, LamX.lamCx, LamX.lamEnv, relabel, Env.kindOf]; decide +kernel))) (ji_seq (je_var (i := 0))) (fun _ _ _ _ _ _ _ _ hrg => (jg_name (i := 0) (show List.Nodup (["one"] : List Str) by decide +kernel))) (fun _ _ _ _ _ _ _ _ hrg => (je_and (je_call (ok_is_integer T) hrg passL (ja_cons (je_var (i := 0)) ja_nil)) (je_one (je_cmp op_le raw_le (je_callB call_abs raw_abs T.n_abs Boot.«abs» (ja_cons (je_var (i := 0)) ja_nil)) (je_num T.c_MOST_LENGTH) (nomark _))))) (by decide +kernel)))))) (by decide)
theorem ok_are_ticks (T : Txt P w K mg base) : CalX P w K mg base 4 "are_ticks" (spX T.G m_are_ticks) := (okf_are_ticks T).call fun _ _ _ _ _ _ us hl => match us, hl with | [_], _ => rfl
/-- slots: 0 train, 1 base, 2 ticks -/
def s_need_ticks_1 : ST := (sExp (eCall m_need_train (lCons (eVar 0) (lCons (eC (.str "train")) lNil))))
def s_need_ticks_2 : ST := (sExp (eCall m_need_integer (lCons (eVar 1) (lCons (eC (.str "base")) (lCons (eC (.int 0)) (lCons (eC (.int 1000000)) lNil))))))
def s_need_ticks_3 : ST := (sIf (bNot (bOf (eCall m_are_ticks (lCons (eVar 2) lNil)))) (sRaise (eC (.str "ticks"))) sNop)
def b_need_ticks : ST := (sSeq s_need_ticks_1 (sSeq s_need_ticks_2 s_need_ticks_3))
def m_need_ticks : List D → M D := mkF 3 3 b_need_ticks
theorem sc_need_ticks : FnScope ["train", "base", "ticks"] ["train", "base", "ticks"] (defScope st_need_ticks) := ⟨rfl, rfl, rfl, by decide +kernel, rfl, by decide +kernel, by decide +kernel⟩
theorem okf_need_ticks (T : Txt P w K mg base) : CalF P w K mg base 9 "need_ticks" st_need_ticks ["train", "base", "ticks"] (spX T.G m_need_ticks) :=
  def_ok T.d_need_ticks sc_need_ticks (b := b_need_ticks) (fun f A outer s aD F H E hr => (jss_cons (js_exp (je_call (ok_need_train T) hr px_of (ja_cons (je_var (i := 0)) (ja_cons je_str ja_nil)))) (jss_cons (js_exp (je_call (ok_need_integer T) hr px_of (ja_cons (je_var (i := 1)) (ja_cons je_str (ja_cons je_int (ja_cons (je_num T.c_MOST_LENGTH) ja_nil)))))) (jss_one (js_if (jt_not (jt_val (je_call (ok_are_ticks T) hr px_of (ja_cons (je_var (i := 2)) ja_nil)))) (jss_one (js_raise T.bad rfl tk_of passL hr je_str)) jss_nil))))) (by decide)
theorem ok_need_ticks (T : Txt P w K mg base) : CalX P w K mg base 9 "need_ticks" (spX T.G m_need_ticks) := (okf_need_ticks T).call fun _ _ _ _ _ _ us hl => match us, hl with | [_, _, _], _ => rfl
/-- slots: 0 train, 1 value, 2 one -/
def s_is_bend_1 : ST := (sIf (bOr (bNot (bOf (eCallB (dIsi "tuple") (lCons (eVar 1) lNil)))) (bOr (bOf (eBin dNe (eCallB dLen (lCons (eVar 1) lNil)) (eC (.int 3)))) (bNot (bOf (eAll (.n 0) (itS (eVar 1)) (eCall m_is_integer (lCons (eVar 0) lNil)) [] 1))))) (sRet (eC (.bool false))) sNop)
def s_is_bend_2 : ST := (sRet (eAnd (eChain dLe dLt (eC (.int 0)) (eBin dIx (eVar 1) (eC (.int 0))) (eCallB dLen (lCons (eVar 0) lNil))) (eAnd (eChain dLe dLt (eC (.int 0)) (eBin dIx (eVar 1) (eC (.int 1))) (eBin dIx (eBin dIx (eVar 0) (eBin dIx (eVar 1) (eC (.int 0)))) (eC (.int 0)))) (eChain dLt dLe (eC (.int 0)) (eCallB dAbs (lCons (eBin dIx (eVar 1) (eC (.int 2))) lNil)) (eBin dMulB (eC (.int 2)) (eC (.int 1000000)))))))
def b_is_bend : ST := (sSeq s_is_bend_1 s_is_bend_2)
def m_is_bend : List D → M D := mkF 2 3 b_is_bend
theorem sc_is_bend : FnScope ["train", "value", "one"] ["train", "value"] (defScope st_is_bend) := ⟨rfl, rfl, rfl, by decide +kernel, rfl, by decide +kernel, by decide +kernel⟩
theorem okf_is_bend (T : Txt P w K mg base) : CalF P w K mg base 4 "is_bend" st_is_bend ["train", "value"] (spX T.G m_is_bend) :=
  def_ok T.d_is_bend sc_is_bend (b := b_is_bend) (fun f A outer s aD F H E hr => (jss_cons (js_if (JW.pt (jt_orc (jt_not (jt_val (je_isi (T := "tuple") (by decide) T.n_isinstance T.n_tuple Boot.«tuple» (je_var (i := 1))))) (jt_orc (jt_cmp (op_neD (Room.near64 hr)) raw_ne (je_callB call_len_seq raw_len T.n_len Boot.«len» (ja_cons (je_var (i := 1)) ja_nil)) je_int (nomark _)) (jt_or1 (jt_not (jt_val (je_all (k := 1) (N' := ["one"]) (cap := []) rfl hr T.n_all T.t_is_bend rfl (by simp [Txt.G]) T.l_is_bend (GX.gx_by (by (dsimp +instances only [cxOf, Cx.blk, envOfC, compEnvC, GX.gxCx, genEnv, LamX.lamCx, LamX.lamEnv, relabel, Env.kindOf]; decide +kernel))) (ji_seq (je_var (i := 1))) (fun _ _ _ _ _ _ _ _ hrg => (jg_name (i := 0) (show List.Nodup (["one"] : List Str) by decide +kernel))) (fun _ _ _ _ _ _ _ _ hrg => (je_call (ok_is_integer T) hrg passL (ja_cons (je_var (i := 0)) ja_nil))) (by decide +kernel)))))))) (jss_one (js_ret je_bl)) jss_nil) (jss_one (js_ret (je_and (je_chain op_le raw_le op_lt raw_lt je_int (je_ix (je_var (i := 1)) je_int) (je_callB call_len_seq raw_len T.n_len Boot.«len» (ja_cons (je_var (i := 0)) ja_nil))) (je_and (je_chain op_le raw_le op_lt raw_lt je_int (je_ix (je_var (i := 1)) je_int) (je_ix (je_ix (je_var (i := 0)) (je_ix (je_var (i := 1)) je_int)) je_int)) (je_one (je_chain op_lt raw_lt op_le raw_le je_int (je_callB call_abs raw_abs T.n_abs Boot.«abs» (ja_cons (je_ix (je_var (i := 1)) je_int) ja_nil)) (je_bin op_mulB raw_mulB je_int (je_num T.c_MOST_LENGTH)))))))))) (by decide)
theorem ok_is_bend (T : Txt P w K mg base) : CalX P w K mg base 4 "is_bend" (spX T.G m_is_bend) := (okf_is_bend T).call fun _ _ _ _ _ _ us hl => match us, hl with | [_, _], _ => rfl
/-- slots: 0 train, 1 value, 2 one, 3 at -/
def s_are_bends_1 : ST := (sIf (bOr (bNot (bOf (eCallB (dIsi "tuple") (lCons (eVar 1) lNil)))) (bOr (bOf (eBin dGt (eCallB dLen (lCons (eVar 1) lNil)) (eC (.int 6)))) (bNot (bOf (eAll (.n 1) (itS (eVar 1)) (eCall m_is_bend (lCons (eVar 0) (lCons (eVar 1) lNil))) [0] 2))))) (sRet (eC (.bool false))) sNop)
def s_are_bends_2 : ST := (sRet (eAll (.n 1) (itR2 (eC (.int 1)) (eCallB dLen (lCons (eVar 1) lNil))) (eBin dLtA (eSl (eBin dIx (eVar 0) (eBin dSub (eVar 1) (eC (.int 1)))) none (some (eC (.int 2)))) (eSl (eBin dIx (eVar 0) (eVar 1)) none (some (eC (.int 2))))) [1] 2))
def b_are_bends : ST := (sSeq s_are_bends_1 s_are_bends_2)
def m_are_bends : List D → M D := mkF 2 4 b_are_bends
theorem sc_are_bends : FnScope ["train", "value", "one", "at"] ["train", "value"] (defScope st_are_bends) := ⟨rfl, rfl, rfl, by decide +kernel, rfl, by decide +kernel, by decide +kernel⟩
theorem okf_are_bends (T : Txt P w K mg base) : CalF P w K mg base 7 "are_bends" st_are_bends ["train", "value"] (spX T.G m_are_bends) :=
  def_ok T.d_are_bends sc_are_bends (b := b_are_bends) (fun f A outer s aD F H E hr => (jss_cons (js_if (JW.pt (jt_orc (jt_not (jt_val (je_isi (T := "tuple") (by decide) T.n_isinstance T.n_tuple Boot.«tuple» (je_var (i := 1))))) (jt_orc (jt_cmp op_gt raw_gt (je_callB call_len_seq raw_len T.n_len Boot.«len» (ja_cons (je_var (i := 1)) ja_nil)) je_int (nomark _)) (jt_or1 (jt_not (jt_val (je_all (k := 4) (N' := ["train", "one"]) (cap := [0]) rfl hr T.n_all T.t_are_bends rfl (by simp [Txt.G]) T.l_are_bends (GX.gx_by (by (dsimp +instances only [cxOf, Cx.blk, envOfC, compEnvC, GX.gxCx, genEnv, LamX.lamCx, LamX.lamEnv, relabel, Env.kindOf]; decide +kernel))) (ji_seq (je_var (i := 1))) (fun _ _ _ _ _ _ _ _ hrg => (jg_name (i := 1) (show List.Nodup (["train", "one"] : List Str) by decide +kernel))) (fun _ _ _ _ _ _ _ _ hrg => (je_call (ok_is_bend T) hrg passL (ja_cons (je_var (i := 0)) (ja_cons (je_var (i := 1)) ja_nil)))) (by decide +kernel)))))))) (jss_one (js_ret je_bl)) jss_nil) (jss_one (js_ret (je_all (k := 0) (N' := ["value", "at"]) (cap := [1]) rfl hr T.n_all T.t_are_bends rfl (by simp [Txt.G]) T.l_are_bends (GX.gx_by (by (dsimp +instances only [cxOf, Cx.blk, envOfC, compEnvC, GX.gxCx, genEnv, LamX.lamCx, LamX.lamEnv, relabel, Env.kindOf]; decide +kernel))) (ji_rng2 T.n_range je_int (je_callB call_len_seq raw_len T.n_len Boot.«len» (ja_cons (je_var (i := 1)) ja_nil))) (fun _ _ _ _ _ _ _ _ hrg => (jg_name (i := 1) (show List.Nodup (["value", "at"] : List Str) by decide +kernel))) (fun _ _ _ _ _ _ _ _ hrg => (je_cmp (op_ltA (Room.near64 hrg)) raw_ltA (je_sl (je_ix (je_var (i := 0)) (je_bin op_sub raw_sub (je_var (i := 1)) je_int)) jo_none (jo_some je_int)) (je_sl (je_ix (je_var (i := 0)) (je_var (i := 1))) jo_none (jo_some je_int)) (nomark _))) (by decide +kernel)))))) (by decide)
theorem ok_are_bends (T : Txt P w K mg base) : CalX P w K mg base 7 "are_bends" (spX T.G m_are_bends) := (okf_are_bends T).call fun _ _ _ _ _ _ us hl => match us, hl with | [_, _], _ => rfl
/-- slots: 0 train, 1 base, 2 bends, 3 many, 4 found, 5 beat, 6 row, 7 wheel, 8 tooth, 9 error -/
def y_lengths_1 : ST := (sSeq (sSet 6 (eCall m_places_at (lCons (eVar 0) (lCons (eVar 5) lNil)))) (sApp 4 (eBin dAdd (eVar 1) (eCallB (dAlt dSum dSumT) (lCons (eComp (.t ((.n 7) :: ((.n 8) :: ((.n 9) :: [])))) (itS (eVar 2)) (bOf (eBin dEq (eBin dIx (eVar 6) (eVar 7)) (eVar 8))) (eVar 9) [7, 8, 9]) lNil)))))
def s_lengths_1 : ST := (sExp (eCall m_need_train (lCons (eVar 0) (lCons (eC (.str "train")) lNil))))
def s_lengths_2 : ST := (sExp (eCall m_need_integer (lCons (eVar 1) (lCons (eC (.str "base")) (lCons (eC (.int 0)) (lCons (eC (.int 1000000)) lNil))))))
def s_lengths_3 : ST := (sIf (bNot (bOf (eCall m_are_bends (lCons (eVar 0) (lCons (eVar 2) lNil))))) (sRaise (eC (.str "bends"))) sNop)
def s_lengths_4 : ST := (sExp (eCall m_need_integer (lCons (eVar 3) (lCons (eC (.str "many")) (lCons (eC (.int 0)) (lCons (eC (.int 120)) lNil))))))
def s_lengths_5 : ST := (sOwn 4 lNil)
def s_lengths_6 : ST := (sFor (.n 5) (itR1 (eVar 3)) [5, 6] y_lengths_1)
def s_lengths_7 : ST := (sFrz 4 (sRet (eCallB dTuple (lCons (eVar 4) lNil))))
def b_lengths : ST := (sSeq s_lengths_1 (sSeq s_lengths_2 (sSeq s_lengths_3 (sSeq s_lengths_4 (sSeq s_lengths_5 (sSeq s_lengths_6 s_lengths_7))))))
def m_lengths : List D → M D := mkF 4 10 b_lengths
theorem sc_lengths : FnScope ["train", "base", "bends", "many", "found", "beat", "row", "wheel", "tooth", "error"] ["train", "base", "bends", "many"] (defScope st_lengths) := ⟨rfl, rfl, rfl, by decide +kernel, rfl, by decide +kernel, by decide +kernel⟩
theorem okf_lengths (T : Txt P w K mg base) : CalF P w K mg base 9 "lengths" st_lengths ["train", "base", "bends", "many"] (spX T.G m_lengths) :=
  def_ok T.d_lengths sc_lengths (b := b_lengths) (fun f A outer s aD F H E hr => (jss_cons (js_exp (je_call (ok_need_train T) hr px_of (ja_cons (je_var (i := 0)) (ja_cons je_str ja_nil)))) (jss_cons (js_exp (je_call (ok_need_integer T) hr px_of (ja_cons (je_var (i := 1)) (ja_cons je_str (ja_cons je_int (ja_cons (je_num T.c_MOST_LENGTH) ja_nil)))))) (jss_cons (js_if (jt_not (jt_val (je_call (ok_are_bends T) hr px_of (ja_cons (je_var (i := 0)) (ja_cons (je_var (i := 2)) ja_nil))))) (jss_one (js_raise T.bad rfl tk_of passL hr je_str)) jss_nil) (jss_cons (js_exp (je_call (ok_need_integer T) hr px_of (ja_cons (je_var (i := 3)) (ja_cons je_str (ja_cons je_int (ja_cons (je_num T.c_MOST_TICKS) ja_nil)))))) (jss_cons (js_own (i := 4) sc_lengths.nd ja_nil) (jss_cons (js_for [5, 6] po_of rfl (ji_rng1 T.n_range (je_var (i := 3))) (jg_name (i := 5) sc_lengths.nd) (jss_cons (js_set (i := 6) sc_lengths.nd (je_call (ok_places_at T) hr px_of (ja_cons (je_var (i := 0)) (ja_cons (je_var (i := 5)) ja_nil)))) (jss_one (js_app (i := 4) (je_bin op_addD raw_add (je_var (i := 1)) (je_callB (CallR.or' (cr_sum rfl) (cr_sumT rfl)) (rawL_or raw_sum raw_sumT) T.n_sum Boot.«sum» (ja_cons (je_lc (own := [("wheel", 7), ("tooth", 8), ("error", 9)]) rfl sc_lengths.nd (ji_seq (je_var (i := 2))) (blkOk_by (by (dsimp +instances only [cxOf, Cx.blk, envOfC, compEnvC, GX.gxCx, genEnv, LamX.lamCx, LamX.lamEnv, relabel, Env.kindOf]; decide +kernel))) (fun _ _ _ _ _ => (jg_tup rfl (jgs_cons (jg_name (i := 7) sc_lengths.nd) (jgs_cons (jg_name (i := 8) sc_lengths.nd) (jgs_cons (jg_name (i := 9) sc_lengths.nd) jgs_nil))))) (fun _ _ _ _ _ => (jts_one (jt_cmp (op_eqD (Room.near64 hr)) raw_eq (je_ix (je_var (i := 6)) (je_var (i := 7))) (je_var (i := 8)) (nomark _)))) (fun _ _ _ _ _ => (je_var (i := 9))) (by decide +kernel)) ja_nil))))))) (jss_one (js_frz 4 (js_ret (je_callT call_tuple_of raw_tuple T.n_tuple Boot.«tuple» (ja_cons (je_var (i := 4)) ja_nil)))))))))))) (by decide)
theorem ok_lengths (T : Txt P w K mg base) : CalX P w K mg base 9 "lengths" (spX T.G m_lengths) := (okf_lengths T).call fun _ _ _ _ _ _ us hl => match us, hl with | [_, _, _, _], _ => rfl
theorem okk_lengths_1 (T : Txt P w K mg base) : CalK P w K mg base 9 "lengths" ["many"] (spX T.G m_lengths) := (okf_lengths T).callK (n := 3) (by decide) (by decide) fun _ _ _ _ _ _ us ws h1 h2 => match us, ws, h1, h2 with | [_, _, _], [_], _, _ => rfl
/-- slots: 0 train, 1 many, 2 found, 3 beat, 4 row, 5 wheel, 6 tooth -/
def y_working_1 : ST := (sSdApp 2 (eTup (lCons (eVar 5) (lCons (eBin dIx (eVar 4) (eVar 5)) lNil))) (eVar 3))
def y_working_2 : ST := (sSeq (sSet 4 (eCall m_places_at (lCons (eVar 0) (lCons (eVar 3) lNil)))) (sFor (.n 5) (itR1 (eCallB dLen (lCons (eVar 0) lNil))) [5] y_working_1))
def s_working_1 : ST := (sLNew 2)
def s_working_2 : ST := (sFor (.n 3) (itR1 (eVar 1)) [3, 4, 5] y_working_2)
def s_working_3 : ST := (sFrzL 2 (sRet (eComp (.n 6) (itS (eSortT 2)) bYes (eTup (lCons (eVar 6) (lCons (eTGet 2 (eVar 6)) lNil))) [6])))
def b_working : ST := (sSeq s_working_1 (sSeq s_working_2 s_working_3))
def m_working : List D → M D := mkF 2 7 b_working
theorem sc_working : FnScope ["train", "many", "found", "beat", "row", "wheel", "tooth"] ["train", "many"] (defScope st_working) := ⟨rfl, rfl, rfl, by decide +kernel, rfl, by decide +kernel, by decide +kernel⟩
theorem okf_working (T : Txt P w K mg base) : CalF P w K mg base 2 "working" st_working ["train", "many"] (spX T.G m_working) :=
  def_ok T.d_working sc_working (b := b_working) (fun f A outer s aD F H E hr => (jss_cons (js_lnew (i := 2) sc_working.nd) (jss_cons (js_for [3, 4, 5] po_of rfl (ji_rng1 T.n_range (je_var (i := 1))) (jg_name (i := 3) sc_working.nd) (jss_cons (js_set (i := 4) sc_working.nd (je_call (ok_places_at T) hr px_of (ja_cons (je_var (i := 0)) (ja_cons (je_var (i := 3)) ja_nil)))) (jss_one (js_for [5] po_of rfl (ji_rng1 T.n_range (je_callB call_len_seq raw_len T.n_len Boot.«len» (ja_cons (je_var (i := 0)) ja_nil))) (jg_name (i := 5) sc_working.nd) (jss_one (js_sdapp (i := 2) hr (je_tup (ja_cons (je_var (i := 5)) (ja_cons (je_ix (je_var (i := 4)) (je_var (i := 5))) ja_nil))) (je_var (i := 3)))))))) (jss_one (js_frzL 2 (js_ret (je_lc (own := [("tooth", 6)]) rfl sc_working.nd (ji_seq (je_sortT (i := 2) rfl hr T.n_sorted)) (blkOk_by (by (dsimp +instances only [cxOf, Cx.blk, envOfC, compEnvC, GX.gxCx, genEnv, LamX.lamCx, LamX.lamEnv, relabel, Env.kindOf]; decide +kernel))) (fun _ _ _ _ _ => (jg_name (i := 6) sc_working.nd)) (fun _ _ _ _ _ => jts_nil) (fun _ _ _ _ _ => (je_tup (ja_cons (je_var (i := 6)) (ja_cons (je_tget (i := 2) hr (je_var (i := 6))) ja_nil)))) (by decide +kernel)))))))) (by decide)
theorem ok_working (T : Txt P w K mg base) : CalX P w K mg base 2 "working" (spX T.G m_working) := (okf_working T).call fun _ _ _ _ _ _ us hl => match us, hl with | [_, _], _ => rfl
/-- slots: 0 beats, 1 off, 2 error, 3 beat -/
def y_single_1 : ST := (sIf (bOf (eBin dNe (eBin dIx (eVar 1) (eVar 3)) (eIf (bOf (eBin dIn (eVar 3) (eVar 0))) (eVar 2) (eC (.int 0))))) (sRet (eC .none)) sNop)
def s_single_1 : ST := (sSet 2 (eBin dIx (eVar 1) (eBin dIx (eVar 0) (eC (.int 0)))))
def s_single_2 : ST := (sIf (bOf (eBin dEq (eVar 2) (eC (.int 0)))) (sRet (eC .none)) sNop)
def s_single_3 : ST := (sFor (.n 3) (itR1 (eCallB dLen (lCons (eVar 1) lNil))) [3] y_single_1)
def s_single_4 : ST := (sRet (eVar 2))
def b_single : ST := (sSeq s_single_1 (sSeq s_single_2 (sSeq s_single_3 s_single_4)))
def m_single : List D → M D := mkF 2 4 b_single
theorem sc_single : FnScope ["beats", "off", "error", "beat"] ["beats", "off"] (defScope st_single) := ⟨rfl, rfl, rfl, by decide +kernel, rfl, by decide +kernel, by decide +kernel⟩
theorem okf_single (T : Txt P w K mg base) : CalF P w K mg base 1 "single" st_single ["beats", "off"] (spX T.G m_single) :=
  def_ok T.d_single sc_single (b := b_single) (fun f A outer s aD F H E hr => (jss_cons (js_set (i := 2) sc_single.nd (je_ix (je_var (i := 1)) (je_ix (je_var (i := 0)) je_int))) (jss_cons (js_if (jt_cmp (op_eqD (Room.near64 hr)) raw_eq (je_var (i := 2)) je_int (nomark _)) (jss_one (js_ret je_non)) jss_nil) (jss_cons (js_for [3] po_of rfl (ji_rng1 T.n_range (je_callB call_len_seq raw_len T.n_len Boot.«len» (ja_cons (je_var (i := 1)) ja_nil))) (jg_name (i := 3) sc_single.nd) (jss_one (js_if (jt_cmp (op_neD (Room.near64 hr)) raw_ne (je_ix (je_var (i := 1)) (je_var (i := 3))) (je_if (jt_cmp (op_inE (Room.near hr)) raw_in (je_var (i := 3)) (je_var (i := 0)) (by rfl)) (je_var (i := 2)) je_int) (nomark _)) (jss_one (js_ret je_non)) jss_nil))) (jss_one (js_ret (je_var (i := 2)))))))) (by decide)
theorem ok_single (T : Txt P w K mg base) : CalX P w K mg base 1 "single" (spX T.G m_single) := (okf_single T).call fun _ _ _ _ _ _ us hl => match us, hl with | [_, _], _ => rfl
/-- slots: 0 one, 1 other, 2 off, 3 alone, 4 rest, 5 first, 6 second, 7 beat -/
def y_double_1 : ST := (sIf (bOf (eBin dNe (eBin dIx (eVar 2) (eVar 7)) (eBin dAdd (eIf (bOf (eBin dIn (eVar 7) (eVar 0))) (eVar 5) (eC (.int 0))) (eIf (bOf (eBin dIn (eVar 7) (eVar 1))) (eVar 6) (eC (.int 0)))))) (sRet (eC .none)) sNop)
def s_double_1 : ST := (sSet 3 (eComp (.n 7) (itS (eVar 0)) (bOf (eBin dNotIn (eVar 7) (eVar 1))) (eVar 7) [7]))
def s_double_2 : ST := (sSet 4 (eComp (.n 7) (itS (eVar 1)) (bOf (eBin dNotIn (eVar 7) (eVar 0))) (eVar 7) [7]))
def s_double_3 : ST := (sIf (bOf (eBin dGt (eCallB dLen (lCons (eVar 3) lNil)) (eC (.int 0)))) (sSeq (sSet 5 (eBin dIx (eVar 2) (eBin dIx (eVar 3) (eC (.int 0))))) (sSet 6 (eBin dSub (eBin dIx (eVar 2) (eBin dIx (eVar 1) (eC (.int 0)))) (eIf (bOf (eBin dIn (eBin dIx (eVar 1) (eC (.int 0))) (eVar 0))) (eVar 5) (eC (.int 0)))))) (sIf (bOf (eBin dGt (eCallB dLen (lCons (eVar 4) lNil)) (eC (.int 0)))) (sSeq (sSet 6 (eBin dIx (eVar 2) (eBin dIx (eVar 4) (eC (.int 0))))) (sSet 5 (eBin dSub (eBin dIx (eVar 2) (eBin dIx (eVar 0) (eC (.int 0)))) (eVar 6)))) (sRet (eC .none))))
def s_double_4 : ST := (sIf (bOr (bOf (eBin dEq (eVar 5) (eC (.int 0)))) (bOf (eBin dEq (eVar 6) (eC (.int 0))))) (sRet (eC .none)) sNop)
def s_double_5 : ST := (sFor (.n 7) (itR1 (eCallB dLen (lCons (eVar 2) lNil))) [7] y_double_1)
def s_double_6 : ST := (sRet (eTup (lCons (eVar 5) (lCons (eVar 6) lNil))))
def b_double : ST := (sSeq s_double_1 (sSeq s_double_2 (sSeq s_double_3 (sSeq s_double_4 (sSeq s_double_5 s_double_6)))))
def m_double : List D → M D := mkF 3 8 b_double
theorem sc_double : FnScope ["one", "other", "off", "alone", "rest", "first", "second", "beat"] ["one", "other", "off"] (defScope st_double) := ⟨rfl, rfl, rfl, by decide +kernel, rfl, by decide +kernel, by decide +kernel⟩
theorem okf_double (T : Txt P w K mg base) : CalF P w K mg base 1 "double" st_double ["one", "other", "off"] (spX T.G m_double) :=
  def_ok T.d_double sc_double (b := b_double) (fun f A outer s aD F H E hr => (jss_cons (js_setLc (i := 3) (own := [("beat", 7)]) rfl sc_double.nd (ji_seq (je_var (i := 0))) (blkOk_by (by (dsimp +instances only [cxOf, Cx.blk, envOfC, compEnvC, GX.gxCx, genEnv, LamX.lamCx, LamX.lamEnv, relabel, Env.kindOf]; decide +kernel))) (fun _ _ _ _ _ => (jg_name (i := 7) sc_double.nd)) (fun _ _ _ _ _ => (jts_one (jt_cmp (op_notInE (Room.near hr)) raw_notIn (je_var (i := 7)) (je_var (i := 1)) (by rfl)))) (fun _ _ _ _ _ => (je_var (i := 7))) (by decide +kernel)) (jss_cons (js_setLc (i := 4) (own := [("beat", 7)]) rfl sc_double.nd (ji_seq (je_var (i := 1))) (blkOk_by (by (dsimp +instances only [cxOf, Cx.blk, envOfC, compEnvC, GX.gxCx, genEnv, LamX.lamCx, LamX.lamEnv, relabel, Env.kindOf]; decide +kernel))) (fun _ _ _ _ _ => (jg_name (i := 7) sc_double.nd)) (fun _ _ _ _ _ => (jts_one (jt_cmp (op_notInE (Room.near hr)) raw_notIn (je_var (i := 7)) (je_var (i := 0)) (by rfl)))) (fun _ _ _ _ _ => (je_var (i := 7))) (by decide +kernel)) (jss_cons (js_if (jt_cmp op_gt raw_gt (je_callB call_len_seq raw_len T.n_len Boot.«len» (ja_cons (je_var (i := 3)) ja_nil)) je_int (nomark _)) (jss_cons (js_set (i := 5) sc_double.nd (je_ix (je_var (i := 2)) (je_ix (je_var (i := 3)) je_int))) (jss_one (js_set (i := 6) sc_double.nd (je_bin op_sub raw_sub (je_ix (je_var (i := 2)) (je_ix (je_var (i := 1)) je_int)) (je_if (jt_cmp (op_inE (Room.near hr)) raw_in (je_ix (je_var (i := 1)) je_int) (je_var (i := 0)) (by rfl)) (je_var (i := 5)) je_int))))) (jss_one (js_if (jt_cmp op_gt raw_gt (je_callB call_len_seq raw_len T.n_len Boot.«len» (ja_cons (je_var (i := 4)) ja_nil)) je_int (nomark _)) (jss_cons (js_set (i := 6) sc_double.nd (je_ix (je_var (i := 2)) (je_ix (je_var (i := 4)) je_int))) (jss_one (js_set (i := 5) sc_double.nd (je_bin op_sub raw_sub (je_ix (je_var (i := 2)) (je_ix (je_var (i := 0)) je_int)) (je_var (i := 6)))))) (jss_one (js_ret je_non))))) (jss_cons (js_if (JW.pt (jt_orc (jt_cmp (op_eqD (Room.near64 hr)) raw_eq (je_var (i := 5)) je_int (nomark _)) (jt_or1 (jt_cmp (op_eqD (Room.near64 hr)) raw_eq (je_var (i := 6)) je_int (nomark _))))) (jss_one (js_ret je_non)) jss_nil) (jss_cons (js_for [7] po_of rfl (ji_rng1 T.n_range (je_callB call_len_seq raw_len T.n_len Boot.«len» (ja_cons (je_var (i := 2)) ja_nil))) (jg_name (i := 7) sc_double.nd) (jss_one (js_if (jt_cmp (op_neD (Room.near64 hr)) raw_ne (je_ix (je_var (i := 2)) (je_var (i := 7))) (je_bin op_addD raw_add (je_if (jt_cmp (op_inE (Room.near hr)) raw_in (je_var (i := 7)) (je_var (i := 0)) (by rfl)) (je_var (i := 5)) je_int) (je_if (jt_cmp (op_inE (Room.near hr)) raw_in (je_var (i := 7)) (je_var (i := 1)) (by rfl)) (je_var (i := 6)) je_int)) (nomark _)) (jss_one (js_ret je_non)) jss_nil))) (jss_one (js_ret (je_tup (ja_cons (je_var (i := 5)) (ja_cons (je_var (i := 6)) ja_nil))))))))))) (by decide)
theorem ok_double (T : Txt P w K mg base) : CalX P w K mg base 1 "double" (spX T.G m_double) := (okf_double T).call fun _ _ _ _ _ _ us hl => match us, hl with | [_, _, _], _ => rfl
/-- slots: 0 train, 1 base, 2 ticks, 3 most, 4 off, 5 rows, 6 found, 7 tooth, 8 beats, 9 error, 10 at, 11 later, 12 errors, 13 tick, 14 one -/
def y_explanations_1 : ST := (sSeq (sSet 9 (eCall m_single (lCons (eVar 8) (lCons (eVar 4) lNil)))) (sIf (bOf (eBin dNot (eVar 9) (eC .none))) (sApp 6 (eTup (lCons (eBin dAdd (eVar 7) (eTup (lCons (eVar 9) lNil))) lNil))) sNop))
def y_explanations_2 : ST := (sSeq (sSet 12 (eCall m_double (lCons (eBin dIx (eBin dIx (eVar 5) (eVar 10)) (eC (.int 1))) (lCons (eBin dIx (eBin dIx (eVar 5) (eVar 11)) (eC (.int 1))) (lCons (eVar 4) lNil))))) (sIf (bOf (eBin dNot (eVar 12) (eC .none))) (sApp 6 (eTup (lCons (eBin dAdd (eBin dIx (eBin dIx (eVar 5) (eVar 10)) (eC (.int 0))) (eTup (lCons (eBin dIx (eVar 12) (eC (.int 0))) lNil))) (lCons (eBin dAdd (eBin dIx (eBin dIx (eVar 5) (eVar 11)) (eC (.int 0))) (eTup (lCons (eBin dIx (eVar 12) (eC (.int 1))) lNil))) lNil)))) sNop))
def y_explanations_3 : ST := (sFor (.n 11) (itR2 (eBin dAdd (eVar 10) (eC (.int 1))) (eCallB dLen (lCons (eVar 5) lNil))) [11, 12] y_explanations_2)
def s_explanations_1 : ST := (sExp (eCall m_need_ticks (lCons (eVar 0) (lCons (eVar 1) (lCons (eVar 2) lNil)))))
def s_explanations_2 : ST := (sExp (eCall m_need_integer (lCons (eVar 3) (lCons (eC (.str "most")) (lCons (eC (.int 0)) (lCons (eC (.int 2)) lNil))))))
def s_explanations_3 : ST := (sSet 4 (eComp (.n 13) (itS (eVar 2)) bYes (eBin dSub (eVar 13) (eVar 1)) [13]))
def s_explanations_4 : ST := (sIf (bOf (eCallB dAll (lCons (eComp (.n 14) (itS (eVar 4)) bYes (eBin dEq (eVar 14) (eC (.int 0))) [14]) lNil))) (sRet (eTup (lCons (eTup lNil) lNil))) sNop)
def s_explanations_5 : ST := (sSet 5 (eCall m_working (lCons (eVar 0) (lCons (eCallB dLen (lCons (eVar 2) lNil)) lNil))))
def s_explanations_6 : ST := (sOwn 6 lNil)
def s_explanations_7 : ST := (sIf (bOf (eBin dGt (eVar 3) (eC (.int 0)))) (sFor (.t ((.n 7) :: ((.n 8) :: []))) (itS (eVar 5)) [7, 8, 9] y_explanations_1) sNop)
def s_explanations_8 : ST := (sIf (bAnd (bOf (eBin dGt (eVar 3) (eC (.int 1)))) (bOf (eBin dEq (eOwnLen 6) (eC (.int 0))))) (sFor (.n 10) (itR1 (eCallB dLen (lCons (eVar 5) lNil))) [10, 11, 12] y_explanations_3) sNop)
def s_explanations_9 : ST := (sFrz 6 (sRet (eCallB dTuple (lCons (eVar 6) lNil))))
def b_explanations : ST := (sSeq s_explanations_1 (sSeq s_explanations_2 (sSeq s_explanations_3 (sSeq s_explanations_4 (sSeq s_explanations_5 (sSeq s_explanations_6 (sSeq s_explanations_7 (sSeq s_explanations_8 s_explanations_9))))))))
def m_explanations : List D → M D := mkF 4 15 b_explanations
theorem sc_explanations : FnScope ["train", "base", "ticks", "most", "off", "rows", "found", "tooth", "beats", "error", "at", "later", "errors", "tick", "one"] ["train", "base", "ticks", "most"] (defScope st_explanations) := ⟨rfl, rfl, rfl, by decide +kernel, rfl, by decide +kernel, by decide +kernel⟩
theorem okf_explanations (T : Txt P w K mg base) : CalF P w K mg base 10 "explanations" st_explanations ["train", "base", "ticks", "most"] (spX T.G m_explanations) :=
  def_ok T.d_explanations sc_explanations (b := b_explanations) (fun f A outer s aD F H E hr => (jss_cons (js_exp (je_call (ok_need_ticks T) hr px_of (ja_cons (je_var (i := 0)) (ja_cons (je_var (i := 1)) (ja_cons (je_var (i := 2)) ja_nil))))) (jss_cons (js_exp (je_call (ok_need_integer T) hr px_of (ja_cons (je_var (i := 3)) (ja_cons je_str (ja_cons je_int (ja_cons (je_num T.c_MOST_BENT) ja_nil)))))) (jss_cons (js_setLc (i := 4) (own := [("tick", 13)]) rfl sc_explanations.nd (ji_seq (je_var (i := 2))) (blkOk_by (by (dsimp +instances only [cxOf, Cx.blk, envOfC, compEnvC, GX.gxCx, genEnv, LamX.lamCx, LamX.lamEnv, relabel, Env.kindOf]; decide +kernel))) (fun _ _ _ _ _ => (jg_name (i := 13) sc_explanations.nd)) (fun _ _ _ _ _ => jts_nil) (fun _ _ _ _ _ => (je_bin op_sub raw_sub (je_var (i := 13)) (je_var (i := 1)))) (by decide +kernel)) (jss_cons (js_if (jt_val (je_callB (cr_all rfl) raw_all T.n_all Boot.«all» (ja_cons (je_lc (own := [("one", 14)]) rfl sc_explanations.nd (ji_seq (je_var (i := 4))) (blkOk_by (by (dsimp +instances only [cxOf, Cx.blk, envOfC, compEnvC, GX.gxCx, genEnv, LamX.lamCx, LamX.lamEnv, relabel, Env.kindOf]; decide +kernel))) (fun _ _ _ _ _ => (jg_name (i := 14) sc_explanations.nd)) (fun _ _ _ _ _ => jts_nil) (fun _ _ _ _ _ => (je_cmp (op_eqD (Room.near64 hr)) raw_eq (je_var (i := 14)) je_int (nomark _))) (by decide +kernel)) ja_nil))) (jss_one (js_ret (je_tup (ja_cons (je_tup ja_nil) ja_nil)))) jss_nil) (jss_cons (js_set (i := 5) sc_explanations.nd (je_call (ok_working T) hr px_of (ja_cons (je_var (i := 0)) (ja_cons (je_callB call_len_seq raw_len T.n_len Boot.«len» (ja_cons (je_var (i := 2)) ja_nil)) ja_nil)))) (jss_cons (js_own (i := 6) sc_explanations.nd ja_nil) (jss_cons (js_if (jt_cmp op_gt raw_gt (je_var (i := 3)) je_int (nomark _)) (jss_one (js_for [7, 8, 9] po_of rfl (ji_seq (je_var (i := 5))) (jg_tup rfl (jgs_cons (jg_name (i := 7) sc_explanations.nd) (jgs_cons (jg_name (i := 8) sc_explanations.nd) jgs_nil))) (jss_cons (js_set (i := 9) sc_explanations.nd (je_call (ok_single T) hr px_of (ja_cons (je_var (i := 8)) (ja_cons (je_var (i := 4)) ja_nil)))) (jss_one (js_if (jt_cmp op_notN raw_not (je_var (i := 9)) je_non (nomark _)) (jss_one (js_app (i := 6) (je_tup (ja_cons (je_bin op_addD raw_add (je_var (i := 7)) (je_tup (ja_cons (je_var (i := 9)) ja_nil))) ja_nil)))) jss_nil))))) jss_nil) (jss_cons (js_if (JW.pt (jt_andc (jt_cmp op_gt raw_gt (je_var (i := 3)) je_int (nomark _)) (jt_and1 (jt_cmp (op_eqD (Room.near64 hr)) raw_eq (je_ownLen (i := 6) T.n_len) je_int (nomark _))))) (jss_one (js_for [10, 11, 12] po_of rfl (ji_rng1 T.n_range (je_callB call_len_seq raw_len T.n_len Boot.«len» (ja_cons (je_var (i := 5)) ja_nil))) (jg_name (i := 10) sc_explanations.nd) (jss_one (js_for [11, 12] po_of rfl (ji_rng2 T.n_range (je_bin op_addD raw_add (je_var (i := 10)) je_int) (je_callB call_len_seq raw_len T.n_len Boot.«len» (ja_cons (je_var (i := 5)) ja_nil))) (jg_name (i := 11) sc_explanations.nd) (jss_cons (js_set (i := 12) sc_explanations.nd (je_call (ok_double T) hr px_of (ja_cons (je_ix (je_ix (je_var (i := 5)) (je_var (i := 10))) je_int) (ja_cons (je_ix (je_ix (je_var (i := 5)) (je_var (i := 11))) je_int) (ja_cons (je_var (i := 4)) ja_nil))))) (jss_one (js_if (jt_cmp op_notN raw_not (je_var (i := 12)) je_non (nomark _)) (jss_one (js_app (i := 6) (je_tup (ja_cons (je_bin op_addD raw_add (je_ix (je_ix (je_var (i := 5)) (je_var (i := 10))) je_int) (je_tup (ja_cons (je_ix (je_var (i := 12)) je_int) ja_nil))) (ja_cons (je_bin op_addD raw_add (je_ix (je_ix (je_var (i := 5)) (je_var (i := 11))) je_int) (je_tup (ja_cons (je_ix (je_var (i := 12)) je_int) ja_nil))) ja_nil))))) jss_nil))))))) jss_nil) (jss_one (js_frz 6 (js_ret (je_callT call_tuple_of raw_tuple T.n_tuple Boot.«tuple» (ja_cons (je_var (i := 6)) ja_nil)))))))))))))) (by decide)
theorem ok_explanations (T : Txt P w K mg base) : CalX P w K mg base 10 "explanations" (spX T.G m_explanations) := (okf_explanations T).call fun _ _ _ _ _ _ us hl => match us, hl with | [_, _, _, _], _ => rfl
theorem okk_explanations_1 (T : Txt P w K mg base) : CalK P w K mg base 10 "explanations" ["most"] (spX T.G m_explanations) := (okf_explanations T).callK (n := 3) (by decide) (by decide) fun _ _ _ _ _ _ us ws h1 h2 => match us, ws, h1, h2 with | [_, _, _], [_], _, _ => rfl
/-- slots: 0 train, 1 base, 2 ticks, 3 most, 4 rows, 5 first, 6 bend, 7 tooth, 8 row -/
def s_surely_bent_1 : ST := (sExp (eCall m_need_ticks (lCons (eVar 0) (lCons (eVar 1) (lCons (eVar 2) lNil)))))
def s_surely_bent_2 : ST := (sExp (eCall m_need_integer (lCons (eVar 3) (lCons (eC (.str "most")) (lCons (eC (.int 0)) (lCons (eC (.int 2)) lNil))))))
def s_surely_bent_3 : ST := (sSet 4 (eCall m_explanations (lCons (eVar 0) (lCons (eVar 1) (lCons (eVar 2) (lCons (eVar 3) lNil))))))
def s_surely_bent_4 : ST := (sIf (bOf (eBin dEq (eCallB dLen (lCons (eVar 4) lNil)) (eC (.int 0)))) (sRet (eTup lNil)) sNop)
def s_surely_bent_5 : ST := (sSet 5 (eComp (.n 6) (itS (eBin dIx (eVar 4) (eC (.int 0)))) bYes (eSl (eVar 6) none (some (eC (.int 2)))) [6]))
def s_surely_bent_6 : ST := (sRet (eCallB dTuple (lCons (eComp (.n 7) (itS (eVar 5)) (bOf (eCallB dAll (lCons (eComp (.n 8) (itS (eVar 4)) bYes (eBin dIn (eVar 7) (eComp (.n 6) (itS (eVar 8)) bYes (eSl (eVar 6) none (some (eC (.int 2)))) [6])) [8]) lNil))) (eVar 7) [7]) lNil)))
def b_surely_bent : ST := (sSeq s_surely_bent_1 (sSeq s_surely_bent_2 (sSeq s_surely_bent_3 (sSeq s_surely_bent_4 (sSeq s_surely_bent_5 s_surely_bent_6)))))
def m_surely_bent : List D → M D := mkF 4 9 b_surely_bent
theorem sc_surely_bent : FnScope ["train", "base", "ticks", "most", "rows", "first", "bend", "tooth", "row"] ["train", "base", "ticks", "most"] (defScope st_surely_bent) := ⟨rfl, rfl, rfl, by decide +kernel, rfl, by decide +kernel, by decide +kernel⟩
theorem okf_surely_bent (T : Txt P w K mg base) : CalF P w K mg base 11 "surely_bent" st_surely_bent ["train", "base", "ticks", "most"] (spX T.G m_surely_bent) :=
  def_ok T.d_surely_bent sc_surely_bent (b := b_surely_bent) (fun f A outer s aD F H E hr => (jss_cons (js_exp (je_call (ok_need_ticks T) hr px_of (ja_cons (je_var (i := 0)) (ja_cons (je_var (i := 1)) (ja_cons (je_var (i := 2)) ja_nil))))) (jss_cons (js_exp (je_call (ok_need_integer T) hr px_of (ja_cons (je_var (i := 3)) (ja_cons je_str (ja_cons je_int (ja_cons (je_num T.c_MOST_BENT) ja_nil)))))) (jss_cons (js_set (i := 4) sc_surely_bent.nd (je_call (ok_explanations T) hr px_of (ja_cons (je_var (i := 0)) (ja_cons (je_var (i := 1)) (ja_cons (je_var (i := 2)) (ja_cons (je_var (i := 3)) ja_nil)))))) (jss_cons (js_if (jt_cmp (op_eqD (Room.near64 hr)) raw_eq (je_callB call_len_seq raw_len T.n_len Boot.«len» (ja_cons (je_var (i := 4)) ja_nil)) je_int (nomark _)) (jss_one (js_ret (je_tup ja_nil))) jss_nil) (jss_cons (js_setLc (i := 5) (own := [("bend", 6)]) rfl sc_surely_bent.nd (ji_seq (je_ix (je_var (i := 4)) je_int)) (blkOk_by (by (dsimp +instances only [cxOf, Cx.blk, envOfC, compEnvC, GX.gxCx, genEnv, LamX.lamCx, LamX.lamEnv, relabel, Env.kindOf]; decide +kernel))) (fun _ _ _ _ _ => (jg_name (i := 6) sc_surely_bent.nd)) (fun _ _ _ _ _ => jts_nil) (fun _ _ _ _ _ => (je_sl (je_var (i := 6)) jo_none (jo_some je_int))) (by decide +kernel)) (jss_one (js_ret (je_callT call_tuple_of raw_tuple T.n_tuple Boot.«tuple» (ja_cons (je_lc (own := [("tooth", 7)]) rfl sc_surely_bent.nd (ji_seq (je_var (i := 5))) (blkOk_by (by (dsimp +instances only [cxOf, Cx.blk, envOfC, compEnvC, GX.gxCx, genEnv, LamX.lamCx, LamX.lamEnv, relabel, Env.kindOf]; decide +kernel))) (fun _ _ _ _ _ => (jg_name (i := 7) sc_surely_bent.nd)) (fun _ _ _ _ _ => (jts_one (jt_val (je_callB (cr_all rfl) raw_all T.n_all Boot.«all» (ja_cons (je_lc (own := [("row", 8)]) rfl sc_surely_bent.nd (ji_seq (je_var (i := 4))) (blkOk_by (by (dsimp +instances only [cxOf, Cx.blk, envOfC, compEnvC, GX.gxCx, genEnv, LamX.lamCx, LamX.lamEnv, relabel, Env.kindOf]; decide +kernel))) (fun _ _ _ _ _ => (jg_name (i := 8) sc_surely_bent.nd)) (fun _ _ _ _ _ => jts_nil) (fun _ _ _ _ _ => (je_cmp (op_inE (Room.near hr)) raw_in (je_var (i := 7)) (je_lc (own := [("bend", 6)]) rfl sc_surely_bent.nd (ji_seq (je_var (i := 8))) (blkOk_by (by (dsimp +instances only [cxOf, Cx.blk, envOfC, compEnvC, GX.gxCx, genEnv, LamX.lamCx, LamX.lamEnv, relabel, Env.kindOf]; decide +kernel))) (fun _ _ _ _ _ => (jg_name (i := 6) sc_surely_bent.nd)) (fun _ _ _ _ _ => jts_nil) (fun _ _ _ _ _ => (je_sl (je_var (i := 6)) jo_none (jo_some je_int))) (by decide +kernel)) (by rfl))) (by decide +kernel)) ja_nil))))) (fun _ _ _ _ _ => (je_var (i := 7))) (by decide +kernel)) ja_nil)))))))))) (by decide)
theorem ok_surely_bent (T : Txt P w K mg base) : CalX P w K mg base 11 "surely_bent" (spX T.G m_surely_bent) := (okf_surely_bent T).call fun _ _ _ _ _ _ us hl => match us, hl with | [_, _, _, _], _ => rfl
theorem okk_surely_bent_1 (T : Txt P w K mg base) : CalK P w K mg base 11 "surely_bent" ["most"] (spX T.G m_surely_bent) := (okf_surely_bent T).callK (n := 3) (by decide) (by decide) fun _ _ _ _ _ _ us ws h1 h2 => match us, ws, h1, h2 with | [_, _, _], [_], _, _ => rfl
/-- slots: 0 one, 1 other -/
def c_greatest_1 : EB := (bOf (eBin dGt (eVar 1) (eC (.int 0))))
def y_greatest_1 : ST := (sPar 0 1 (eVar 1) (eBin dMod (eVar 0) (eVar 1)))
def s_greatest_1 : ST := (sWh 4096 c_greatest_1 y_greatest_1)
def s_greatest_2 : ST := (sRet (eVar 0))
def b_greatest : ST := (sSeq s_greatest_1 s_greatest_2)
def m_greatest : List D → M D := mkF 2 2 b_greatest
theorem sc_greatest : FnScope ["one", "other"] ["one", "other"] (defScope st_greatest) := ⟨rfl, rfl, rfl, by decide +kernel, rfl, by decide +kernel, by decide +kernel⟩
theorem okf_greatest (T : Txt P w K mg base) : CalF P w K mg base 1 "greatest" st_greatest ["one", "other"] (spX T.G m_greatest) :=
  def_ok T.d_greatest sc_greatest (b := b_greatest) (fun f A outer s aD F H E hr => (jss_cons (js_wh 4096 po_of (jt_cmp op_gt raw_gt (je_var (i := 1)) je_int (nomark _)) (jss_one (js_par (i := 0) (j := 1) rfl sc_greatest.nd (je_var (i := 1)) (je_bin op_modN raw_mod (je_var (i := 0)) (je_var (i := 1)))))) (jss_one (js_ret (je_var (i := 0)))))) (by decide)
theorem ok_greatest (T : Txt P w K mg base) : CalX P w K mg base 1 "greatest" (spX T.G m_greatest) := (okf_greatest T).call fun _ _ _ _ _ _ us hl => match us, hl with | [_, _], _ => rfl
/-- slots: 0 train, 1 bends, 2 found, 3 whole, 4 counts, 5 teeth, 6 step, 7 count, 8 wheel, 9 tooth, 10 error -/
def y_round_error_1 : ST := (sApp 4 (eBin dDiv (eVar 5) (eCall m_greatest (lCons (eVar 5) (lCons (eVar 6) lNil)))))
def y_round_error_2 : ST := (sSet 3 (eBin dMulB (eBin dDiv (eVar 3) (eCall m_greatest (lCons (eVar 3) (lCons (eVar 7) lNil)))) (eVar 7)))
def y_round_error_3 : ST := (sIf (bOf (eBin dEq (eBin dMod (eVar 9) (eBin dDiv (eBin dIx (eBin dIx (eVar 0) (eVar 8)) (eC (.int 0))) (eBin dIx (eVar 4) (eVar 8)))) (eC (.int 0)))) (sAug 2 (oII fun i j => .int (i + j)) (eBin dMulB (eVar 10) (eBin dDiv (eVar 3) (eBin dIx (eVar 4) (eVar 8))))) sNop)
def s_round_error_1 : ST := (sExp (eCall m_need_train (lCons (eVar 0) (lCons (eC (.str "train")) lNil))))
def s_round_error_2 : ST := (sIf (bNot (bOf (eCall m_are_bends (lCons (eVar 0) (lCons (eVar 1) lNil))))) (sRaise (eC (.str "bends"))) sNop)
def s_round_error_3 : ST := (sSet 2 (eC (.int 0)))
def s_round_error_4 : ST := (sSet 3 (eC (.int 1)))
def s_round_error_5 : ST := (sOwn 4 lNil)
def s_round_error_6 : ST := (sFor (.t ((.n 5) :: ((.n 6) :: []))) (itS (eVar 0)) [5, 6] y_round_error_1)
def s_round_error_7 : ST := (sFrz 4 (sFor (.n 7) (itS (eVar 4)) [7] y_round_error_2))
def s_round_error_8 : ST := (sFor (.t ((.n 8) :: ((.n 9) :: ((.n 10) :: [])))) (itS (eVar 1)) [8, 9, 10] y_round_error_3)
def s_round_error_9 : ST := (sRet (eVar 2))
def b_round_error : ST := (sSeq s_round_error_1 (sSeq s_round_error_2 (sSeq s_round_error_3 (sSeq s_round_error_4 (sSeq s_round_error_5 (sSeq s_round_error_6 (sSeq s_round_error_7 (sSeq s_round_error_8 s_round_error_9))))))))
def m_round_error : List D → M D := mkF 2 11 b_round_error
theorem sc_round_error : FnScope ["train", "bends", "found", "whole", "counts", "teeth", "step", "count", "wheel", "tooth", "error"] ["train", "bends"] (defScope st_round_error) := ⟨rfl, rfl, rfl, by decide +kernel, rfl, by decide +kernel, by decide +kernel⟩
theorem okf_round_error (T : Txt P w K mg base) : CalF P w K mg base 9 "round_error" st_round_error ["train", "bends"] (spX T.G m_round_error) :=
  def_ok T.d_round_error sc_round_error (b := b_round_error) (fun f A outer s aD F H E hr => (jss_cons (js_exp (je_call (ok_need_train T) hr px_of (ja_cons (je_var (i := 0)) (ja_cons je_str ja_nil)))) (jss_cons (js_if (jt_not (jt_val (je_call (ok_are_bends T) hr px_of (ja_cons (je_var (i := 0)) (ja_cons (je_var (i := 1)) ja_nil))))) (jss_one (js_raise T.bad rfl tk_of passL hr je_str)) jss_nil) (jss_cons (js_set (i := 2) sc_round_error.nd je_int) (jss_cons (js_set (i := 3) sc_round_error.nd je_int) (jss_cons (js_own (i := 4) sc_round_error.nd ja_nil) (jss_cons (js_for [5, 6] po_of rfl (ji_seq (je_var (i := 0))) (jg_tup rfl (jgs_cons (jg_name (i := 5) sc_round_error.nd) (jgs_cons (jg_name (i := 6) sc_round_error.nd) jgs_nil))) (jss_one (js_app (i := 4) (je_bin op_fdivN raw_div (je_var (i := 5)) (je_call (ok_greatest T) hr px_of (ja_cons (je_var (i := 5)) (ja_cons (je_var (i := 6)) ja_nil))))))) (jss_cons (js_frz 4 (js_for [7] po_of rfl (ji_seq (je_var (i := 4))) (jg_name (i := 7) sc_round_error.nd) (jss_one (js_set (i := 3) sc_round_error.nd (je_bin op_mulB raw_mulB (je_bin op_fdivN raw_div (je_var (i := 3)) (je_call (ok_greatest T) hr px_of (ja_cons (je_var (i := 3)) (ja_cons (je_var (i := 7)) ja_nil)))) (je_var (i := 7))))))) (jss_cons (js_for [8, 9, 10] po_of rfl (ji_seq (je_var (i := 1))) (jg_tup rfl (jgs_cons (jg_name (i := 8) sc_round_error.nd) (jgs_cons (jg_name (i := 9) sc_round_error.nd) (jgs_cons (jg_name (i := 10) sc_round_error.nd) jgs_nil)))) (jss_one (js_if (jt_cmp (op_eqD (Room.near64 hr)) raw_eq (je_bin op_modN raw_mod (je_var (i := 9)) (je_bin op_fdivN raw_div (je_ix (je_ix (je_var (i := 0)) (je_var (i := 8))) je_int) (je_ix (je_var (i := 4)) (je_var (i := 8))))) je_int (nomark _)) (jss_one (js_aug (i := 2) sc_round_error.nd iop_add (raw_II fun F i j => .int _) (je_bin op_mulB raw_mulB (je_var (i := 10)) (je_bin op_fdivN raw_div (je_var (i := 3)) (je_ix (je_var (i := 4)) (je_var (i := 8))))))) jss_nil))) (jss_one (js_ret (je_var (i := 2))))))))))))) (by decide)
theorem ok_round_error (T : Txt P w K mg base) : CalX P w K mg base 9 "round_error" (spX T.G m_round_error) := (okf_round_error T).call fun _ _ _ _ _ _ us hl => match us, hl with | [_, _], _ => rfl
theorem okk_round_error_1 (T : Txt P w K mg base) : CalK P w K mg base 9 "round_error" ["bends"] (spX T.G m_round_error) := (okf_round_error T).callK (n := 1) (by decide) (by decide) fun _ _ _ _ _ _ us ws h1 h2 => match us, ws, h1, h2 with | [_], [_], _, _ => rfl
/-- slots: 0 dice, 1 things -/
def b__law_pick : ST := (sRet (eBin dIx (eVar 1) (eCallD 0 m__law_roll (lCons (eCallB dLen (lCons (eVar 1) lNil)) lNil))))
def m__law_pick : List D → M D := mkD 1 2 b__law_pick
theorem sc__law_pick : FnScope ["dice", "things"] ["dice", "things"] (defScope st__law_pick) := ⟨rfl, rfl, rfl, by decide +kernel, rfl, by decide +kernel, by decide +kernel⟩
theorem okf__law_pick (T : Txt P w K mg base) : CalF P w K mg base 2 "_law_pick" st__law_pick ["dice", "things"] (spD T.G m__law_pick) :=
  def_okD T.d__law_pick sc__law_pick (b := b__law_pick) (fun f A outer s aD F H E hr => (jss_one (js_ret (je_ix (je_var (i := 1)) (je_callD (i := 0) (ok__law_roll T) hr px_of (ja_cons (je_callB call_len_seq raw_len T.n_len Boot.«len» (ja_cons (je_var (i := 1)) ja_nil)) ja_nil)))))) (by decide) (by decide)
theorem ok__law_pick (T : Txt P w K mg base) : CalX P w K mg base 2 "_law_pick" (spD T.G m__law_pick) := (okf__law_pick T).call fun _ _ _ _ _ _ us hl => match us, hl with | [_, _], _ => rfl
/-- slots: 0 dice, 1 most, 2 found, 3 turn, 4 teeth -/
def y__law_train_1 : ST := (sSeq (sSet 4 (eBin dAdd (eC (.int 2)) (eCallD 0 m__law_roll (lCons (eC (.int 8)) lNil)))) (sApp 2 (eTup (lCons (eVar 4) (lCons (eBin dAdd (eC (.int 1)) (eCallD 0 m__law_roll (lCons (eBin dSub (eVar 4) (eC (.int 1))) lNil))) lNil)))))
def s__law_train_1 : ST := (sOwn 2 lNil)
def s__law_train_2 : ST := (sFor (.n 3) (itR1 (eBin dAdd (eC (.int 1)) (eCallD 0 m__law_roll (lCons (eVar 1) lNil)))) [3, 4] y__law_train_1)
def s__law_train_3 : ST := (sFrz 2 (sRet (eCallB dTuple (lCons (eVar 2) lNil))))
def b__law_train : ST := (sSeq s__law_train_1 (sSeq s__law_train_2 s__law_train_3))
def m__law_train : List D → M D := mkD 1 5 b__law_train
theorem sc__law_train : FnScope ["dice", "most", "found", "turn", "teeth"] ["dice", "most"] (defScope st__law_train) := ⟨rfl, rfl, rfl, by decide +kernel, rfl, by decide +kernel, by decide +kernel⟩
theorem okf__law_train (T : Txt P w K mg base) : CalF P w K mg base 2 "_law_train" st__law_train ["dice", "most"] (spD T.G m__law_train) :=
  def_okD T.d__law_train sc__law_train (b := b__law_train) (fun f A outer s aD F H E hr => (jss_cons (js_own (i := 2) sc__law_train.nd ja_nil) (jss_cons (js_for [3, 4] po_of rfl (ji_rng1 T.n_range (je_bin op_addD raw_add je_int (je_callD (i := 0) (ok__law_roll T) hr px_of (ja_cons (je_var (i := 1)) ja_nil)))) (jg_name (i := 3) sc__law_train.nd) (jss_cons (js_set (i := 4) sc__law_train.nd (je_bin op_addD raw_add je_int (je_callD (i := 0) (ok__law_roll T) hr px_of (ja_cons je_int ja_nil)))) (jss_one (js_app (i := 2) (je_tup (ja_cons (je_var (i := 4)) (ja_cons (je_bin op_addD raw_add je_int (je_callD (i := 0) (ok__law_roll T) hr px_of (ja_cons (je_bin op_sub raw_sub (je_var (i := 4)) je_int) ja_nil))) ja_nil))))))) (jss_one (js_frz 2 (js_ret (je_callT call_tuple_of raw_tuple T.n_tuple Boot.«tuple» (ja_cons (je_var (i := 2)) ja_nil)))))))) (by decide) (by decide)
theorem ok__law_train (T : Txt P w K mg base) : CalX P w K mg base 2 "_law_train" (spD T.G m__law_train) := (okf__law_train T).call fun _ _ _ _ _ _ us hl => match us, hl with | [_, _], _ => rfl
/-- slots: 0 train, 1 beat, 2 teeth, 3 step -/
def b__law_places : ST := (sRet (eCallB dTuple (lCons (eComp (.t ((.n 2) :: ((.n 3) :: []))) (itS (eVar 0)) bYes (eBin dMod (eBin dMulB (eVar 1) (eVar 3)) (eVar 2)) [2, 3]) lNil)))
def m__law_places : List D → M D := mkF 2 4 b__law_places
theorem sc__law_places : FnScope ["train", "beat", "teeth", "step"] ["train", "beat"] (defScope st__law_places) := ⟨rfl, rfl, rfl, by decide +kernel, rfl, by decide +kernel, by decide +kernel⟩
theorem okf__law_places (T : Txt P w K mg base) : CalF P w K mg base 1 "_law_places" st__law_places ["train", "beat"] (spX T.G m__law_places) :=
  def_ok T.d__law_places sc__law_places (b := b__law_places) (fun f A outer s aD F H E hr => (jss_one (js_ret (je_callT call_tuple_of raw_tuple T.n_tuple Boot.«tuple» (ja_cons (je_lc (own := [("teeth", 2), ("step", 3)]) rfl sc__law_places.nd (ji_seq (je_var (i := 0))) (blkOk_by (by (dsimp +instances only [cxOf, Cx.blk, envOfC, compEnvC, GX.gxCx, genEnv, LamX.lamCx, LamX.lamEnv, relabel, Env.kindOf]; decide +kernel))) (fun _ _ _ _ _ => (jg_tup rfl (jgs_cons (jg_name (i := 2) sc__law_places.nd) (jgs_cons (jg_name (i := 3) sc__law_places.nd) jgs_nil)))) (fun _ _ _ _ _ => jts_nil) (fun _ _ _ _ _ => (je_bin op_modN raw_mod (je_bin op_mulB raw_mulB (je_var (i := 1)) (je_var (i := 3))) (je_var (i := 2)))) (by decide +kernel)) ja_nil))))) (by decide)
theorem ok__law_places (T : Txt P w K mg base) : CalX P w K mg base 1 "_law_places" (spX T.G m__law_places) := (okf__law_places T).call fun _ _ _ _ _ _ us hl => match us, hl with | [_, _], _ => rfl
/-- slots: 0 train, 1 beat, 2 count -/
def y__law_cycle_1 : ST := (sSeq (sIf (bOf (eBin dEq (eCallB (dAlt dMaxL dMaxT) (lCons (eCall m__law_places (lCons (eVar 0) (lCons (eVar 1) lNil))) lNil)) (eC (.int 0)))) sBrk sNop) (sSet 1 (eBin dAdd (eVar 1) (eC (.int 1)))))
def s__law_cycle_1 : ST := (sSet 1 (eC (.int 1)))
def s__law_cycle_2 : ST := (sFor (.n 2) (itR1 (eBin dPow (eC (.int 10)) (eC (.int 5)))) [2] y__law_cycle_1)
def s__law_cycle_3 : ST := (sRet (eVar 1))
def b__law_cycle : ST := (sSeq s__law_cycle_1 (sSeq s__law_cycle_2 s__law_cycle_3))
def m__law_cycle : List D → M D := mkF 1 3 b__law_cycle
theorem sc__law_cycle : FnScope ["train", "beat", "count"] ["train"] (defScope st__law_cycle) := ⟨rfl, rfl, rfl, by decide +kernel, rfl, by decide +kernel, by decide +kernel⟩
theorem okf__law_cycle (T : Txt P w K mg base) : CalF P w K mg base 2 "_law_cycle" st__law_cycle ["train"] (spX T.G m__law_cycle) :=
  def_ok T.d__law_cycle sc__law_cycle (b := b__law_cycle) (fun f A outer s aD F H E hr => (jss_cons (js_set (i := 1) sc__law_cycle.nd je_int) (jss_cons (js_for [2] po_of rfl (ji_rng1 T.n_range (je_bin op_pow raw_pow je_int je_int)) (jg_name (i := 2) sc__law_cycle.nd) (jss_cons (js_if (jt_cmp (op_eqD (Room.near64 hr)) raw_eq (je_callB (CallR.or' (cr_max rfl) (cr_maxT rfl)) (rawL_or raw_maxL raw_maxT) T.n_max Boot.«max» (ja_cons (je_call (ok__law_places T) hr px_of (ja_cons (je_var (i := 0)) (ja_cons (je_var (i := 1)) ja_nil))) ja_nil)) je_int (nomark _)) (jss_one js_brk) jss_nil) (jss_one (js_set (i := 1) sc__law_cycle.nd (je_bin op_addD raw_add (je_var (i := 1)) je_int))))) (jss_one (js_ret (je_var (i := 1))))))) (by decide)
theorem ok__law_cycle (T : Txt P w K mg base) : CalX P w K mg base 2 "_law_cycle" (spX T.G m__law_cycle) := (okf__law_cycle T).call fun _ _ _ _ _ _ us hl => match us, hl with | [_], _ => rfl
/-- slots: 0 train, 1 base, 2 bends, 3 many, 4 found, 5 beat, 6 row, 7 wheel, 8 tooth, 9 error -/
def y__law_lengths_1 : ST := (sSeq (sSet 6 (eCall m__law_places (lCons (eVar 0) (lCons (eVar 5) lNil)))) (sApp 4 (eBin dAdd (eVar 1) (eCallB (dAlt dSum dSumT) (lCons (eComp (.t ((.n 7) :: ((.n 8) :: ((.n 9) :: [])))) (itS (eVar 2)) (bOf (eBin dEq (eBin dIx (eVar 6) (eVar 7)) (eVar 8))) (eVar 9) [7, 8, 9]) lNil)))))
def s__law_lengths_1 : ST := (sOwn 4 lNil)
def s__law_lengths_2 : ST := (sFor (.n 5) (itR1 (eVar 3)) [5, 6] y__law_lengths_1)
def s__law_lengths_3 : ST := (sFrz 4 (sRet (eVar 4)))
def b__law_lengths : ST := (sSeq s__law_lengths_1 (sSeq s__law_lengths_2 s__law_lengths_3))
def m__law_lengths : List D → M D := mkF 4 10 b__law_lengths
theorem sc__law_lengths : FnScope ["train", "base", "bends", "many", "found", "beat", "row", "wheel", "tooth", "error"] ["train", "base", "bends", "many"] (defScope st__law_lengths) := ⟨rfl, rfl, rfl, by decide +kernel, rfl, by decide +kernel, by decide +kernel⟩
theorem okf__law_lengths (T : Txt P w K mg base) : CalF P w K mg base 2 "_law_lengths" st__law_lengths ["train", "base", "bends", "many"] (spX T.G m__law_lengths) :=
  def_ok T.d__law_lengths sc__law_lengths (b := b__law_lengths) (fun f A outer s aD F H E hr => (jss_cons (js_own (i := 4) sc__law_lengths.nd ja_nil) (jss_cons (js_for [5, 6] po_of rfl (ji_rng1 T.n_range (je_var (i := 3))) (jg_name (i := 5) sc__law_lengths.nd) (jss_cons (js_set (i := 6) sc__law_lengths.nd (je_call (ok__law_places T) hr px_of (ja_cons (je_var (i := 0)) (ja_cons (je_var (i := 5)) ja_nil)))) (jss_one (js_app (i := 4) (je_bin op_addD raw_add (je_var (i := 1)) (je_callB (CallR.or' (cr_sum rfl) (cr_sumT rfl)) (rawL_or raw_sum raw_sumT) T.n_sum Boot.«sum» (ja_cons (je_lc (own := [("wheel", 7), ("tooth", 8), ("error", 9)]) rfl sc__law_lengths.nd (ji_seq (je_var (i := 2))) (blkOk_by (by (dsimp +instances only [cxOf, Cx.blk, envOfC, compEnvC, GX.gxCx, genEnv, LamX.lamCx, LamX.lamEnv, relabel, Env.kindOf]; decide +kernel))) (fun _ _ _ _ _ => (jg_tup rfl (jgs_cons (jg_name (i := 7) sc__law_lengths.nd) (jgs_cons (jg_name (i := 8) sc__law_lengths.nd) (jgs_cons (jg_name (i := 9) sc__law_lengths.nd) jgs_nil))))) (fun _ _ _ _ _ => (jts_one (jt_cmp (op_eqD (Room.near64 hr)) raw_eq (je_ix (je_var (i := 6)) (je_var (i := 7))) (je_var (i := 8)) (nomark _)))) (fun _ _ _ _ _ => (je_var (i := 9))) (by decide +kernel)) ja_nil))))))) (jss_one (js_frz 4 (js_ret (je_var (i := 4)))))))) (by decide)
theorem ok__law_lengths (T : Txt P w K mg base) : CalX P w K mg base 2 "_law_lengths" (spX T.G m__law_lengths) := (okf__law_lengths T).call fun _ _ _ _ _ _ us hl => match us, hl with | [_, _, _, _], _ => rfl
/-- slots: 0 train, 1 base, 2 ticks, 3 most, 4 many, 5 rows, 6 wide, 7 beat, 8 wheel, 9 teeth, 10 errors, 11 found, 12 tooth, 13 at, 14 later, 15 one, 16 other, 17 error, 18 rest, 19 own, 20 left, 21 works, 22 second, 23 tick, 24 first, 25 work -/
def y__law_lots_1 : ST := (sTSet 5 (eTup (lCons (eVar 8) (lCons (eBin dIx (eCall m__law_places (lCons (eVar 0) (lCons (eVar 7) lNil))) (eVar 8)) lNil))) (eC (.bool true)))
def y__law_lots_2 : ST := (sFor (.n 8) (itR1 (eCallB dLen (lCons (eVar 0) lNil))) [8] y__law_lots_1)
def y__law_lots_3 : ST := (sAddO 11 (eComp (.n 17) (itS (eVar 10)) (bOf (eBin dEq (eCall m__law_lengths (lCons (eVar 0) (lCons (eVar 1) (lCons (eTup (lCons (eTup (lCons (eVar 8) (lCons (eVar 12) (lCons (eVar 17) lNil)))) lNil)) (lCons (eVar 4) lNil))))) (eVar 2))) (eTup (lCons (eTup (lCons (eVar 8) (lCons (eVar 12) (lCons (eVar 17) lNil)))) lNil)) [17]))
def y__law_lots_4 : ST := (sSeq (sSet 18 (eComp (.n 23) (itS (eVar 2)) bYes (eBin dSub (eVar 23) (eVar 1)) [23])) (sSeq (sSet 19 (eCall m__law_lengths (lCons (eVar 0) (lCons (eC (.int 0)) (lCons (eTup (lCons (eBin dAdd (eVar 15) (eTup (lCons (eVar 17) lNil))) lNil)) (lCons (eVar 4) lNil)))))) (sSeq (sSet 20 (eComp (.t ((.n 24) :: ((.n 22) :: []))) (itZS (eVar 18) (eVar 19)) bYes (eBin dSub (eVar 24) (eVar 22)) [24, 22])) (sSeq (sSet 21 (eCall m__law_lengths (lCons (eVar 0) (lCons (eC (.int 0)) (lCons (eTup (lCons (eBin dAdd (eVar 16) (eTup (lCons (eC (.int 1)) lNil))) lNil)) (lCons (eVar 4) lNil)))))) (sSeq (sSet 22 (eBin dIx (eComp (.n 7) (itR1 (eVar 4)) (bOf (eBin dEq (eBin dIx (eVar 21) (eVar 7)) (eC (.int 1)))) (eBin dIx (eVar 20) (eVar 7)) [7]) (eC (.int 0)))) (sIf (bAnd (bOf (eBin dNe (eVar 22) (eC (.int 0)))) (bOf (eBin dEq (eVar 20) (eComp (.n 25) (itS (eVar 21)) bYes (eBin dMulB (eVar 22) (eVar 25)) [25])))) (sApp 11 (eTup (lCons (eBin dAdd (eVar 15) (eTup (lCons (eVar 17) lNil))) (lCons (eBin dAdd (eVar 16) (eTup (lCons (eVar 22) lNil))) lNil)))) sNop))))))
def y__law_lots_5 : ST := (sSeq (sPar 15 16 (eBin dIx (eVar 9) (eVar 13)) (eBin dIx (eVar 9) (eVar 14))) (sIf (bOf (eBin dNe (eCall m__law_lengths (lCons (eVar 0) (lCons (eC (.int 0)) (lCons (eTup (lCons (eBin dAdd (eVar 15) (eTup (lCons (eC (.int 1)) lNil))) lNil)) (lCons (eVar 4) lNil))))) (eCall m__law_lengths (lCons (eVar 0) (lCons (eC (.int 0)) (lCons (eTup (lCons (eBin dAdd (eVar 16) (eTup (lCons (eC (.int 1)) lNil))) lNil)) (lCons (eVar 4) lNil))))))) (sFor (.n 17) (itS (eVar 10)) [17, 18, 19, 20, 21, 22] y__law_lots_4) sNop))
def y__law_lots_6 : ST := (sFor (.n 14) (itR2 (eBin dAdd (eVar 13) (eC (.int 1))) (eCallB dLen (lCons (eVar 9) lNil))) [14, 15, 16, 17, 18, 19, 20, 21, 22] y__law_lots_5)
def s__law_lots_1 : ST := (sSet 4 (eCallB dLen (lCons (eVar 2) lNil)))
def s__law_lots_2 : ST := (sIf (bOf (eBin dEq (eCall m__law_lengths (lCons (eVar 0) (lCons (eVar 1) (lCons (eTup lNil) (lCons (eVar 4) lNil))))) (eVar 2))) (sRet (eLst (lCons (eTup lNil) lNil))) sNop)
def s__law_lots_3 : ST := (sParT 5 6 (eBin dMulB (eC (.int 2)) (eCallB (dAlt dMaxL dMaxT) (lCons (eComp (.n 23) (itS (eVar 2)) bYes (eCallB dAbs (lCons (eBin dSub (eVar 23) (eVar 1)) lNil)) [23]) lNil))))
def s__law_lots_4 : ST := (sFor (.n 7) (itR1 (eVar 4)) [7, 8] y__law_lots_2)
def s__law_lots_5 : ST := (sPar 9 10 (eSortT 5) (eComp (.n 17) (itR2 (eBin dSub (eC (.int 0)) (eVar 6)) (eBin dAdd (eVar 6) (eC (.int 1)))) (bOf (eBin dNe (eVar 17) (eC (.int 0)))) (eVar 17) [17]))
def s__law_lots_6 : ST := (sOwn 11 lNil)
def s__law_lots_7 : ST := (sIf (bOf (eBin dGt (eVar 3) (eC (.int 0)))) (sFor (.t ((.n 8) :: ((.n 12) :: []))) (itS (eVar 9)) [8, 12] y__law_lots_3) sNop)
def s__law_lots_8 : ST := (sIf (bAnd (bOf (eBin dGt (eVar 3) (eC (.int 1)))) (bOf (eBin dEq (eOwnLen 11) (eC (.int 0))))) (sFor (.n 13) (itR1 (eCallB dLen (lCons (eVar 9) lNil))) [13, 14, 15, 16, 17, 18, 19, 20, 21, 22] y__law_lots_6) sNop)
def s__law_lots_9 : ST := (sFrz 11 (sRet (eVar 11)))
def b__law_lots : ST := (sSeq s__law_lots_1 (sSeq s__law_lots_2 (sSeq s__law_lots_3 (sSeq s__law_lots_4 (sSeq s__law_lots_5 (sSeq s__law_lots_6 (sSeq s__law_lots_7 (sSeq s__law_lots_8 s__law_lots_9))))))))
def m__law_lots : List D → M D := mkF 4 26 b__law_lots
theorem sc__law_lots : FnScope ["train", "base", "ticks", "most", "many", "rows", "wide", "beat", "wheel", "teeth", "errors", "found", "tooth", "at", "later", "one", "other", "error", "rest", "own", "left", "works", "second", "tick", "first", "work"] ["train", "base", "ticks", "most"] (defScope st__law_lots) := ⟨rfl, rfl, rfl, by decide +kernel, rfl, by decide +kernel, by decide +kernel⟩
theorem okf__law_lots (T : Txt P w K mg base) : CalF P w K mg base 3 "_law_lots" st__law_lots ["train", "base", "ticks", "most"] (spX T.G m__law_lots) :=
  def_ok T.d__law_lots sc__law_lots (b := b__law_lots) (fun f A outer s aD F H E hr => (jss_cons (js_set (i := 4) sc__law_lots.nd (je_callB call_len_seq raw_len T.n_len Boot.«len» (ja_cons (je_var (i := 2)) ja_nil))) (jss_cons (js_if (jt_cmp (op_eqD (Room.near64 hr)) raw_eq (je_call (ok__law_lengths T) hr px_of (ja_cons (je_var (i := 0)) (ja_cons (je_var (i := 1)) (ja_cons (je_tup ja_nil) (ja_cons (je_var (i := 4)) ja_nil))))) (je_var (i := 2)) (nomark _)) (jss_one (js_ret (je_lst (ja_cons (je_tup ja_nil) ja_nil)))) jss_nil) (jss_cons (js_parT (i := 5) (j := 6) rfl sc__law_lots.nd (je_bin op_mulB raw_mulB je_int (je_callB (CallR.or' (cr_max rfl) (cr_maxT rfl)) (rawL_or raw_maxL raw_maxT) T.n_max Boot.«max» (ja_cons (je_lc (own := [("tick", 23)]) rfl sc__law_lots.nd (ji_seq (je_var (i := 2))) (blkOk_by (by (dsimp +instances only [cxOf, Cx.blk, envOfC, compEnvC, GX.gxCx, genEnv, LamX.lamCx, LamX.lamEnv, relabel, Env.kindOf]; decide +kernel))) (fun _ _ _ _ _ => (jg_name (i := 23) sc__law_lots.nd)) (fun _ _ _ _ _ => jts_nil) (fun _ _ _ _ _ => (je_callB call_abs raw_abs T.n_abs Boot.«abs» (ja_cons (je_bin op_sub raw_sub (je_var (i := 23)) (je_var (i := 1))) ja_nil))) (by decide +kernel)) ja_nil)))) (jss_cons (js_for [7, 8] po_of rfl (ji_rng1 T.n_range (je_var (i := 4))) (jg_name (i := 7) sc__law_lots.nd) (jss_one (js_for [8] po_of rfl (ji_rng1 T.n_range (je_callB call_len_seq raw_len T.n_len Boot.«len» (ja_cons (je_var (i := 0)) ja_nil))) (jg_name (i := 8) sc__law_lots.nd) (jss_one (js_tset (i := 5) hr (je_tup (ja_cons (je_var (i := 8)) (ja_cons (je_ix (je_call (ok__law_places T) hr px_of (ja_cons (je_var (i := 0)) (ja_cons (je_var (i := 7)) ja_nil))) (je_var (i := 8))) ja_nil))) je_bl))))) (jss_cons (js_par (i := 9) (j := 10) rfl sc__law_lots.nd (je_sortT (i := 5) rfl hr T.n_sorted) (je_lc (own := [("error", 17)]) rfl sc__law_lots.nd (ji_rng2 T.n_range (je_bin op_sub raw_sub je_int (je_var (i := 6))) (je_bin op_addD raw_add (je_var (i := 6)) je_int)) (blkOk_by (by (dsimp +instances only [cxOf, Cx.blk, envOfC, compEnvC, GX.gxCx, genEnv, LamX.lamCx, LamX.lamEnv, relabel, Env.kindOf]; decide +kernel))) (fun _ _ _ _ _ => (jg_name (i := 17) sc__law_lots.nd)) (fun _ _ _ _ _ => (jts_one (jt_cmp (op_neD (Room.near64 hr)) raw_ne (je_var (i := 17)) je_int (nomark _)))) (fun _ _ _ _ _ => (je_var (i := 17))) (by decide +kernel))) (jss_cons (js_own (i := 11) sc__law_lots.nd ja_nil) (jss_cons (js_if (jt_cmp op_gt raw_gt (je_var (i := 3)) je_int (nomark _)) (jss_one (js_for [8, 12] po_of rfl (ji_seq (je_var (i := 9))) (jg_tup rfl (jgs_cons (jg_name (i := 8) sc__law_lots.nd) (jgs_cons (jg_name (i := 12) sc__law_lots.nd) jgs_nil))) (jss_one (js_addO (i := 11) sc__law_lots.nd (je_lc (own := [("error", 17)]) rfl sc__law_lots.nd (ji_seq (je_var (i := 10))) (blkOk_by (by (dsimp +instances only [cxOf, Cx.blk, envOfC, compEnvC, GX.gxCx, genEnv, LamX.lamCx, LamX.lamEnv, relabel, Env.kindOf]; decide +kernel))) (fun _ _ _ _ _ => (jg_name (i := 17) sc__law_lots.nd)) (fun _ _ _ _ _ => (jts_one (jt_cmp (op_eqD (Room.near64 hr)) raw_eq (je_call (ok__law_lengths T) hr passL (ja_cons (je_var (i := 0)) (ja_cons (je_var (i := 1)) (ja_cons (je_tup (ja_cons (je_tup (ja_cons (je_var (i := 8)) (ja_cons (je_var (i := 12)) (ja_cons (je_var (i := 17)) ja_nil)))) ja_nil)) (ja_cons (je_var (i := 4)) ja_nil))))) (je_var (i := 2)) (nomark _)))) (fun _ _ _ _ _ => (je_tup (ja_cons (je_tup (ja_cons (je_var (i := 8)) (ja_cons (je_var (i := 12)) (ja_cons (je_var (i := 17)) ja_nil)))) ja_nil))) (by decide +kernel)))))) jss_nil) (jss_cons (js_if (JW.pt (jt_andc (jt_cmp op_gt raw_gt (je_var (i := 3)) je_int (nomark _)) (jt_and1 (jt_cmp (op_eqD (Room.near64 hr)) raw_eq (je_ownLen (i := 11) T.n_len) je_int (nomark _))))) (jss_one (js_for [13, 14, 15, 16, 17, 18, 19, 20, 21, 22] po_of rfl (ji_rng1 T.n_range (je_callB call_len_seq raw_len T.n_len Boot.«len» (ja_cons (je_var (i := 9)) ja_nil))) (jg_name (i := 13) sc__law_lots.nd) (jss_one (js_for [14, 15, 16, 17, 18, 19, 20, 21, 22] po_of rfl (ji_rng2 T.n_range (je_bin op_addD raw_add (je_var (i := 13)) je_int) (je_callB call_len_seq raw_len T.n_len Boot.«len» (ja_cons (je_var (i := 9)) ja_nil))) (jg_name (i := 14) sc__law_lots.nd) (jss_cons (js_par (i := 15) (j := 16) rfl sc__law_lots.nd (je_ix (je_var (i := 9)) (je_var (i := 13))) (je_ix (je_var (i := 9)) (je_var (i := 14)))) (jss_one (js_if (jt_cmp (op_neD (Room.near64 hr)) raw_ne (je_call (ok__law_lengths T) hr px_of (ja_cons (je_var (i := 0)) (ja_cons je_int (ja_cons (je_tup (ja_cons (je_bin op_addD raw_add (je_var (i := 15)) (je_tup (ja_cons je_int ja_nil))) ja_nil)) (ja_cons (je_var (i := 4)) ja_nil))))) (je_call (ok__law_lengths T) hr px_of (ja_cons (je_var (i := 0)) (ja_cons je_int (ja_cons (je_tup (ja_cons (je_bin op_addD raw_add (je_var (i := 16)) (je_tup (ja_cons je_int ja_nil))) ja_nil)) (ja_cons (je_var (i := 4)) ja_nil))))) (nomark _)) (jss_one (js_for [17, 18, 19, 20, 21, 22] po_of rfl (ji_seq (je_var (i := 10))) (jg_name (i := 17) sc__law_lots.nd) (jss_cons (js_setLc (i := 18) (own := [("tick", 23)]) rfl sc__law_lots.nd (ji_seq (je_var (i := 2))) (blkOk_by (by (dsimp +instances only [cxOf, Cx.blk, envOfC, compEnvC, GX.gxCx, genEnv, LamX.lamCx, LamX.lamEnv, relabel, Env.kindOf]; decide +kernel))) (fun _ _ _ _ _ => (jg_name (i := 23) sc__law_lots.nd)) (fun _ _ _ _ _ => jts_nil) (fun _ _ _ _ _ => (je_bin op_sub raw_sub (je_var (i := 23)) (je_var (i := 1)))) (by decide +kernel)) (jss_cons (js_set (i := 19) sc__law_lots.nd (je_call (ok__law_lengths T) hr px_of (ja_cons (je_var (i := 0)) (ja_cons je_int (ja_cons (je_tup (ja_cons (je_bin op_addD raw_add (je_var (i := 15)) (je_tup (ja_cons (je_var (i := 17)) ja_nil))) ja_nil)) (ja_cons (je_var (i := 4)) ja_nil)))))) (jss_cons (js_set (i := 20) sc__law_lots.nd (je_lc (own := [("first", 24), ("second", 22)]) rfl sc__law_lots.nd (ji_zip T.n_zip (je_var (i := 18)) (je_var (i := 19))) (blkOk_by (by (dsimp +instances only [cxOf, Cx.blk, envOfC, compEnvC, GX.gxCx, genEnv, LamX.lamCx, LamX.lamEnv, relabel, Env.kindOf]; decide +kernel))) (fun _ _ _ _ _ => (jg_tup rfl (jgs_cons (jg_name (i := 24) sc__law_lots.nd) (jgs_cons (jg_name (i := 22) sc__law_lots.nd) jgs_nil)))) (fun _ _ _ _ _ => jts_nil) (fun _ _ _ _ _ => (je_bin op_sub raw_sub (je_var (i := 24)) (je_var (i := 22)))) (by decide +kernel))) (jss_cons (js_set (i := 21) sc__law_lots.nd (je_call (ok__law_lengths T) hr px_of (ja_cons (je_var (i := 0)) (ja_cons je_int (ja_cons (je_tup (ja_cons (je_bin op_addD raw_add (je_var (i := 16)) (je_tup (ja_cons je_int ja_nil))) ja_nil)) (ja_cons (je_var (i := 4)) ja_nil)))))) (jss_cons (js_set (i := 22) sc__law_lots.nd (je_ix (je_lc (own := [("beat", 7)]) rfl sc__law_lots.nd (ji_rng1 T.n_range (je_var (i := 4))) (blkOk_by (by (dsimp +instances only [cxOf, Cx.blk, envOfC, compEnvC, GX.gxCx, genEnv, LamX.lamCx, LamX.lamEnv, relabel, Env.kindOf]; decide +kernel))) (fun _ _ _ _ _ => (jg_name (i := 7) sc__law_lots.nd)) (fun _ _ _ _ _ => (jts_one (jt_cmp (op_eqD (Room.near64 hr)) raw_eq (je_ix (je_var (i := 21)) (je_var (i := 7))) je_int (nomark _)))) (fun _ _ _ _ _ => (je_ix (je_var (i := 20)) (je_var (i := 7)))) (by decide +kernel)) je_int)) (jss_one (js_if (JW.pt (jt_andc (jt_cmp (op_neD (Room.near64 hr)) raw_ne (je_var (i := 22)) je_int (nomark _)) (jt_and1 (jt_cmp (op_eqD (Room.near64 hr)) raw_eq (je_var (i := 20)) (je_lc (own := [("work", 25)]) rfl sc__law_lots.nd (ji_seq (je_var (i := 21))) (blkOk_by (by (dsimp +instances only [cxOf, Cx.blk, envOfC, compEnvC, GX.gxCx, genEnv, LamX.lamCx, LamX.lamEnv, relabel, Env.kindOf]; decide +kernel))) (fun _ _ _ _ _ => (jg_name (i := 25) sc__law_lots.nd)) (fun _ _ _ _ _ => jts_nil) (fun _ _ _ _ _ => (je_bin op_mulB raw_mulB (je_var (i := 22)) (je_var (i := 25)))) (by decide +kernel)) (nomark _))))) (jss_one (js_app (i := 11) (je_tup (ja_cons (je_bin op_addD raw_add (je_var (i := 15)) (je_tup (ja_cons (je_var (i := 17)) ja_nil))) (ja_cons (je_bin op_addD raw_add (je_var (i := 16)) (je_tup (ja_cons (je_var (i := 22)) ja_nil))) ja_nil))))) jss_nil))))))))) jss_nil))))))) jss_nil) (jss_one (js_frz 11 (js_ret (je_var (i := 11)))))))))))))) (by decide)
theorem ok__law_lots (T : Txt P w K mg base) : CalX P w K mg base 3 "_law_lots" (spX T.G m__law_lots) := (okf__law_lots T).call fun _ _ _ _ _ _ us hl => match us, hl with | [_, _, _, _], _ => rfl
/-- slots: 0 dice, 1 train, 2 base, 3 bends, 4 turn, 5 wheel, 6 many, 7 most, 8 ticks, 9 at, 10 lots, 11 sure, 12 tooth, 13 error, 14 bad, 15 told, 16 due, 17 lot, 18 bend -/
def y__law_right_1 : ST := (sSeq (sSet 5 (eCallD 0 m__law_roll (lCons (eCallB dLen (lCons (eVar 1) lNil)) lNil))) (sTSet 3 (eTup (lCons (eVar 5) (lCons (eCallD 0 m__law_roll (lCons (eBin dIx (eBin dIx (eVar 1) (eVar 5)) (eC (.int 0))) lNil)) lNil))) (eCallD 0 m__law_pick (lCons (eLst (lCons (eC (.int 1)) (lCons (eC (.int 2)) (lCons (eC (.int 3)) (lCons (eUn dNeg (eC (.int 1))) (lCons (eUn dNeg (eC (.int 2))) lNil)))))) lNil))))
def y__law_right_2 : ST := (sIf (bOf (eBin dEq (eCallB dLen (lCons (eComp (.n 17) (itS (eVar 10)) (bOf (eBin dIn (eTup (lCons (eVar 5) (lCons (eVar 12) lNil))) (eComp (.n 18) (itS (eVar 17)) bYes (eSl (eVar 18) none (some (eC (.int 2)))) [18]))) (eC (.int 1)) [17]) lNil)) (eCallB dLen (lCons (eVar 10) lNil)))) (sApp 11 (eTup (lCons (eVar 5) (lCons (eVar 12) lNil)))) sNop)
def s__law_right_1 : ST := (sPar3T 1 2 3 (eCallD 0 m__law_train (lCons (eC (.int 2)) lNil)) (eBin dAdd (eC (.int 20)) (eCallD 0 m__law_roll (lCons (eC (.int 20)) lNil))))
def s__law_right_2 : ST := (sFor (.n 4) (itR1 (eCallD 0 m__law_roll (lCons (eC (.int 3)) lNil))) [4, 5] y__law_right_1)
def s__law_right_3 : ST := (sSet 3 (eCallB dTuple (lCons (eComp (.n 12) (itS (eSortT 3)) bYes (eBin dAdd (eVar 12) (eTup (lCons (eTGet 3 (eVar 12)) lNil))) [12]) lNil)))
def s__law_right_4 : ST := (sPar 6 7 (eCallD 0 m__law_roll (lCons (eC (.int 14)) lNil)) (eCallD 0 m__law_roll (lCons (eC (.int 3)) lNil)))
def s__law_right_5 : ST := (sSet 8 (eCall m__law_lengths (lCons (eVar 1) (lCons (eVar 2) (lCons (eVar 3) (lCons (eVar 6) lNil))))))
def s__law_right_6 : ST := (sIf (bOr (bOf (eBin dNe (eCallKw m_lengths 1 (lCons (eVar 1) (lCons (eVar 2) (lCons (eVar 3) lNil))) (lCons (eVar 6) lNil)) (eCallB dTuple (lCons (eVar 8) lNil)))) (bNot (bOf (eCall m_are_bends (lCons (eVar 1) (lCons (eVar 3) lNil)))))) (sRet (eC (.bool false))) sNop)
def s__law_right_7 : ST := (sIf (bAnd (bOf (eBin dGt (eCallB dLen (lCons (eVar 8) lNil)) (eC (.int 0)))) (bOf (eBin dEq (eCallD 0 m__law_roll (lCons (eC (.int 3)) lNil)) (eC (.int 0))))) (sSeq (sSet 9 (eCallD 0 m__law_roll (lCons (eCallB dLen (lCons (eVar 8) lNil)) lNil))) (sSet 8 (eBin dAdd (eBin dAdd (eSl (eVar 8) none (some (eVar 9))) (eLst (lCons (eBin dAdd (eBin dIx (eVar 8) (eVar 9)) (eC (.int 1))) lNil))) (eSl (eVar 8) (some (eBin dAdd (eVar 9) (eC (.int 1)))) none)))) sNop)
def s__law_right_8 : ST := (sSet 10 (eCall m__law_lots (lCons (eVar 1) (lCons (eVar 2) (lCons (eVar 8) (lCons (eVar 7) lNil))))))
def s__law_right_9 : ST := (sIf (bOf (eBin dNe (eCallB dSortA (lCons (eCallKw m_explanations 1 (lCons (eVar 1) (lCons (eVar 2) (lCons (eCallB dTuple (lCons (eVar 8) lNil)) lNil))) (lCons (eVar 7) lNil)) lNil)) (eCallB dSortA (lCons (eVar 10) lNil)))) (sRet (eC (.bool false))) sNop)
def s__law_right_10 : ST := (sOwn 11 lNil)
def s__law_right_11 : ST := (sFor (.t ((.n 5) :: ((.n 12) :: ((.n 13) :: [])))) (itS (eIf (bOf (eBin dGt (eCallB dLen (lCons (eVar 10) lNil)) (eC (.int 0)))) (eBin dIx (eVar 10) (eC (.int 0))) (eTup lNil))) [5, 12, 13] y__law_right_2)
def s__law_right_12 : ST := (sFrz 11 (sIf (bOf (eBin dNe (eCallKw m_surely_bent 1 (lCons (eVar 1) (lCons (eVar 2) (lCons (eCallB dTuple (lCons (eVar 8) lNil)) lNil))) (lCons (eVar 7) lNil)) (eCallB dTuple (lCons (eVar 11) lNil)))) (sRet (eC (.bool false))) sNop))
def s__law_right_13 : ST := (sIf (bOf (eBin dNe (eCallKw m_round_error 1 (lCons (eVar 1) lNil) (lCons (eVar 3) lNil)) (eCallB (dAlt dSum dSumT) (lCons (eCall m__law_lengths (lCons (eVar 1) (lCons (eC (.int 0)) (lCons (eVar 3) (lCons (eCall m__law_cycle (lCons (eVar 1) lNil)) lNil))))) lNil)))) (sRet (eC (.bool false))) sNop)
def s__law_right_14 : ST := (sSet 14 (eCallD 0 m__law_pick (lCons (eLst (lCons (eC .none) (lCons (eLst lNil) (lCons (eTup (lCons (eTup (lCons (eC (.int 0)) (lCons (eC (.int 0)) lNil))) lNil)) (lCons (eTup (lCons (eTup (lCons (eC (.int 9)) (lCons (eC (.int 0)) (lCons (eC (.int 1)) lNil)))) lNil)) (lCons (eTup (lCons (eTup (lCons (eC (.int 0)) (lCons (eC (.int 61)) (lCons (eC (.int 1)) lNil)))) lNil)) (lCons (eTup (lCons (eTup (lCons (eC (.int 0)) (lCons (eC (.int 0)) (lCons (eC (.int 0)) lNil)))) lNil)) (lCons (eTup (lCons (eTup (lCons (eC (.int 0)) (lCons (eC (.int 1)) (lCons (eC (.int 1)) lNil)))) (lCons (eTup (lCons (eC (.int 0)) (lCons (eC (.int 0)) (lCons (eC (.int 1)) lNil)))) lNil))) (lCons (eBin dMulB (eTup (lCons (eTup (lCons (eC (.int 0)) (lCons (eC (.int 0)) (lCons (eC (.int 1)) lNil)))) lNil)) (eC (.int 2))) lNil))))))))) lNil)))
def s__law_right_15 : ST := (sSet 15 (eLst (lCons (eTold (eCall m_lengths (lCons (eTup lNil) (lCons (eC .none) (lCons (eC .none) (lCons (eC .none) lNil)))))) (lCons (eTold (eCall m_lengths (lCons (eVar 1) (lCons (eUn dNeg (eC (.int 1))) (lCons (eC .none) (lCons (eC .none) lNil)))))) (lCons (eTold (eCall m_lengths (lCons (eVar 1) (lCons (eVar 2) (lCons (eVar 14) (lCons (eC .none) lNil)))))) (lCons (eTold (eCall m_lengths (lCons (eVar 1) (lCons (eVar 2) (lCons (eVar 3) (lCons (eC (.int 121)) lNil)))))) (lCons (eTold (eCall m_explanations (lCons (eVar 1) (lCons (eVar 2) (lCons (eLst (lCons (eC (.int 1)) lNil)) (lCons (eC .none) lNil)))))) (lCons (eTold (eCall m_explanations (lCons (eVar 1) (lCons (eVar 2) (lCons (eTup (lCons (eC (.int 1)) lNil)) (lCons (eC (.int 3)) lNil)))))) (lCons (eTold (eCall m_surely_bent (lCons (eVar 1) (lCons (eVar 2) (lCons (eTup (lCons (eC (.bool true)) lNil)) (lCons (eC (.int 1)) lNil)))))) (lCons (eTold (eCall m_round_error (lCons (eVar 1) (lCons (eVar 14) lNil)))) lNil))))))))))
def s__law_right_16 : ST := (sSet 16 (eLst (lCons (eC (.str "train")) (lCons (eC (.str "base")) (lCons (eC (.str "bends")) (lCons (eC (.str "many")) (lCons (eC (.str "ticks")) (lCons (eC (.str "most")) (lCons (eC (.str "ticks")) (lCons (eC (.str "bends")) lNil))))))))))
def s__law_right_17 : ST := (sRet (eAnd (eBin dEq (eVar 15) (eVar 16)) (eAnd (eCall m_are_ticks (lCons (eCallB dTuple (lCons (eVar 8) lNil)) lNil)) (eAnd (eNot (eCall m_are_bends (lCons (eVar 1) (lCons (eVar 14) lNil)))) (eNot (eCall m_are_ticks (lCons (eTup (lCons (eC (.str "a")) lNil)) lNil)))))))
def b__law_right : ST := (sSeq s__law_right_1 (sSeq s__law_right_2 (sSeq s__law_right_3 (sSeq s__law_right_4 (sSeq s__law_right_5 (sSeq s__law_right_6 (sSeq s__law_right_7 (sSeq s__law_right_8 (sSeq s__law_right_9 (sSeq s__law_right_10 (sSeq s__law_right_11 (sSeq s__law_right_12 (sSeq s__law_right_13 (sSeq s__law_right_14 (sSeq s__law_right_15 (sSeq s__law_right_16 s__law_right_17))))))))))))))))
def m__law_right : List D → M D := mkD 0 19 b__law_right
theorem told_of (T : Txt P w K mg base) {N : List Str} {f : Addr} {A : Around} {outer : List Env} {s : Shared} {aD : Addr} {F H : Hp} {E : XK} {k k' : Nat} {body : Expr} {scope : Scope} {p lpos pos : Pos} {f' : EX} (hk : k + 2 ≤ k')
    (hr : Room k' (cxOf (L2.CX P w) P w K mg base N "_law_right" (defScope st__law_right) f (.ref T.k__law_right) A outer s H E).A) (L : LamX.LamS (cxOf (L2.CX P w) P w K mg base N "_law_right" (defScope st__law_right) f (.ref T.k__law_right) A outer s H E).env.scope scope)
    (hbody : ∀ (A' : Around) (outer' : List Env) (s' : Shared) (H' : Hp) (E' : XK) (f'' c' : Addr), Room k (A'.deeper (LamX.lamEnv (cxOf (L2.CX P w) P w K mg base N "_law_right" (defScope st__law_right) f (.ref T.k__law_right) A outer s H E) scope s'.heap.objs.size f'' c')) → ∀ (aD' : Addr) (F0 H0 : Hp), JE ⟨T.G, aD', F0, H0, E'⟩ (LamX.lamCx (cxOf (L2.CX P w) P w K mg base N "_law_right" (defScope st__law_right) f (.ref T.k__law_right) A outer s H E) A' outer' s' H' E' scope f'' c') body f') :
    JE ⟨T.G, aD, F, H, E⟩ (cxOf (L2.CX P w) P w K mg base N "_law_right" (defScope st__law_right) f (.ref T.k__law_right) A outer s H E) (.Call (.Name "_law_refused" p) [.Lambda { posonlyargs := [], args := [], vararg := none, kwonlyargs := [], kw_defaults := [], kwarg := none, defaults := [] } body scope lpos] [] pos) (eTold f') :=
  je_told T.d__law_refused T.seen (fun _ _ _ _ _ _ us hl => match us, hl with | [_], _ => rfl) sc__law_refused (.inl rfl) (fun _ _ => told_gives1 (Ng := ["call", "e"]) (a := "call") (e := "BadArgument") (n := "e") T.seen rfl T.bad.g (by decide) (by decide +kernel) rfl rfl (fun _ => rfl) (by decide) (by decide) rfl (fun _ => rfl) (fun _ => rfl)) T.t__law_right rfl (by simp [Txt.G]) rfl hr L hbody hk
theorem sc__law_right : FnScope ["dice", "train", "base", "bends", "turn", "wheel", "many", "most", "ticks", "at", "lots", "sure", "tooth", "error", "bad", "told", "due", "lot", "bend"] ["dice"] (defScope st__law_right) := ⟨rfl, rfl, rfl, by decide +kernel, rfl, by decide +kernel, by decide +kernel⟩
theorem okf__law_right (T : Txt P w K mg base) : CalF P w K mg base 14 "_law_right" st__law_right ["dice"] (spD T.G m__law_right) :=
  def_okD T.d__law_right sc__law_right (b := b__law_right) (fun f A outer s aD F H E hr => (jss_cons (js_asgT (i := 1) (j := 2) (l := 3) rfl sc__law_right.nd (je_callD (i := 0) (ok__law_train T) hr px_of (ja_cons je_int ja_nil)) (je_bin op_addD raw_add je_int (je_callD (i := 0) (ok__law_roll T) hr px_of (ja_cons je_int ja_nil)))) (jss_cons (js_for [4, 5] po_of rfl (ji_rng1 T.n_range (je_callD (i := 0) (ok__law_roll T) hr px_of (ja_cons je_int ja_nil))) (jg_name (i := 4) sc__law_right.nd) (jss_cons (js_set (i := 5) sc__law_right.nd (je_callD (i := 0) (ok__law_roll T) hr px_of (ja_cons (je_callB call_len_seq raw_len T.n_len Boot.«len» (ja_cons (je_var (i := 1)) ja_nil)) ja_nil))) (jss_one (js_tset (i := 3) hr (je_tup (ja_cons (je_var (i := 5)) (ja_cons (je_callD (i := 0) (ok__law_roll T) hr px_of (ja_cons (je_ix (je_ix (je_var (i := 1)) (je_var (i := 5))) je_int) ja_nil)) ja_nil))) (je_callD (i := 0) (ok__law_pick T) hr px_of (ja_cons (je_lst (ja_cons je_int (ja_cons je_int (ja_cons je_int (ja_cons (je_un un_neg raw_neg je_int) (ja_cons (je_un un_neg raw_neg je_int) ja_nil)))))) ja_nil)))))) (jss_cons (js_set (i := 3) sc__law_right.nd (je_callT call_tuple_of raw_tuple T.n_tuple Boot.«tuple» (ja_cons (je_lc (own := [("tooth", 12)]) rfl sc__law_right.nd (ji_seq (je_sortT (i := 3) rfl hr T.n_sorted)) (blkOk_by (by (dsimp +instances only [cxOf, Cx.blk, envOfC, compEnvC, GX.gxCx, genEnv, LamX.lamCx, LamX.lamEnv, relabel, Env.kindOf]; decide +kernel))) (fun _ _ _ _ _ => (jg_name (i := 12) sc__law_right.nd)) (fun _ _ _ _ _ => jts_nil) (fun _ _ _ _ _ => (je_bin op_addD raw_add (je_var (i := 12)) (je_tup (ja_cons (je_tget (i := 3) hr (je_var (i := 12))) ja_nil)))) (by decide +kernel)) ja_nil))) (jss_cons (js_par (i := 6) (j := 7) rfl sc__law_right.nd (je_callD (i := 0) (ok__law_roll T) hr px_of (ja_cons je_int ja_nil)) (je_callD (i := 0) (ok__law_roll T) hr px_of (ja_cons je_int ja_nil))) (jss_cons (js_set (i := 8) sc__law_right.nd (je_call (ok__law_lengths T) hr px_of (ja_cons (je_var (i := 1)) (ja_cons (je_var (i := 2)) (ja_cons (je_var (i := 3)) (ja_cons (je_var (i := 6)) ja_nil)))))) (jss_cons (js_if (JW.pt (jt_orc (jt_cmp (op_neD (Room.near64 hr)) raw_ne (je_callK (okk_lengths_1 T) hr px_of (ja_cons (je_var (i := 1)) (ja_cons (je_var (i := 2)) (ja_cons (je_var (i := 3)) ja_nil))) (jk_cons (je_var (i := 6)) jk_nil)) (je_callT call_tuple_of raw_tuple T.n_tuple Boot.«tuple» (ja_cons (je_var (i := 8)) ja_nil)) (nomark _)) (jt_or1 (jt_not (jt_val (je_call (ok_are_bends T) hr px_of (ja_cons (je_var (i := 1)) (ja_cons (je_var (i := 3)) ja_nil)))))))) (jss_one (js_ret je_bl)) jss_nil) (jss_cons (js_if (JW.pt (jt_andc (jt_cmp op_gt raw_gt (je_callB call_len_seq raw_len T.n_len Boot.«len» (ja_cons (je_var (i := 8)) ja_nil)) je_int (nomark _)) (jt_and1 (jt_cmp (op_eqD (Room.near64 hr)) raw_eq (je_callD (i := 0) (ok__law_roll T) hr px_of (ja_cons je_int ja_nil)) je_int (nomark _))))) (jss_cons (js_set (i := 9) sc__law_right.nd (je_callD (i := 0) (ok__law_roll T) hr px_of (ja_cons (je_callB call_len_seq raw_len T.n_len Boot.«len» (ja_cons (je_var (i := 8)) ja_nil)) ja_nil))) (jss_one (js_set (i := 8) sc__law_right.nd (je_bin op_addD raw_add (je_bin op_addD raw_add (je_sl (je_var (i := 8)) jo_none (jo_some (je_var (i := 9)))) (je_lst (ja_cons (je_bin op_addD raw_add (je_ix (je_var (i := 8)) (je_var (i := 9))) je_int) ja_nil))) (je_sl (je_var (i := 8)) (jo_some (je_bin op_addD raw_add (je_var (i := 9)) je_int)) jo_none))))) jss_nil) (jss_cons (js_set (i := 10) sc__law_right.nd (je_call (ok__law_lots T) hr px_of (ja_cons (je_var (i := 1)) (ja_cons (je_var (i := 2)) (ja_cons (je_var (i := 8)) (ja_cons (je_var (i := 7)) ja_nil)))))) (jss_cons (js_if (jt_cmp (op_neD (Room.near64 hr)) raw_ne (je_callB (cr_sortA (Room.near64 hr)) raw_sortA T.n_sorted Boot.«sorted» (ja_cons (je_callK (okk_explanations_1 T) hr px_of (ja_cons (je_var (i := 1)) (ja_cons (je_var (i := 2)) (ja_cons (je_callT call_tuple_of raw_tuple T.n_tuple Boot.«tuple» (ja_cons (je_var (i := 8)) ja_nil)) ja_nil))) (jk_cons (je_var (i := 7)) jk_nil)) ja_nil)) (je_callB (cr_sortA (Room.near64 hr)) raw_sortA T.n_sorted Boot.«sorted» (ja_cons (je_var (i := 10)) ja_nil)) (nomark _)) (jss_one (js_ret je_bl)) jss_nil) (jss_cons (js_own (i := 11) sc__law_right.nd ja_nil) (jss_cons (js_for [5, 12, 13] po_of rfl (ji_seq (je_if (jt_cmp op_gt raw_gt (je_callB call_len_seq raw_len T.n_len Boot.«len» (ja_cons (je_var (i := 10)) ja_nil)) je_int (nomark _)) (je_ix (je_var (i := 10)) je_int) (je_tup ja_nil))) (jg_tup rfl (jgs_cons (jg_name (i := 5) sc__law_right.nd) (jgs_cons (jg_name (i := 12) sc__law_right.nd) (jgs_cons (jg_name (i := 13) sc__law_right.nd) jgs_nil)))) (jss_one (js_if (jt_cmp (op_eqD (Room.near64 hr)) raw_eq (je_callB call_len_seq raw_len T.n_len Boot.«len» (ja_cons (je_lc (own := [("lot", 17)]) rfl sc__law_right.nd (ji_seq (je_var (i := 10))) (blkOk_by (by (dsimp +instances only [cxOf, Cx.blk, envOfC, compEnvC, GX.gxCx, genEnv, LamX.lamCx, LamX.lamEnv, relabel, Env.kindOf]; decide +kernel))) (fun _ _ _ _ _ => (jg_name (i := 17) sc__law_right.nd)) (fun _ _ _ _ _ => (jts_one (jt_cmp (op_inE (Room.near hr)) raw_in (je_tup (ja_cons (je_var (i := 5)) (ja_cons (je_var (i := 12)) ja_nil))) (je_lc (own := [("bend", 18)]) rfl sc__law_right.nd (ji_seq (je_var (i := 17))) (blkOk_by (by (dsimp +instances only [cxOf, Cx.blk, envOfC, compEnvC, GX.gxCx, genEnv, LamX.lamCx, LamX.lamEnv, relabel, Env.kindOf]; decide +kernel))) (fun _ _ _ _ _ => (jg_name (i := 18) sc__law_right.nd)) (fun _ _ _ _ _ => jts_nil) (fun _ _ _ _ _ => (je_sl (je_var (i := 18)) jo_none (jo_some je_int))) (by decide +kernel)) (by rfl)))) (fun _ _ _ _ _ => je_int) (by decide +kernel)) ja_nil)) (je_callB call_len_seq raw_len T.n_len Boot.«len» (ja_cons (je_var (i := 10)) ja_nil)) (nomark _)) (jss_one (js_app (i := 11) (je_tup (ja_cons (je_var (i := 5)) (ja_cons (je_var (i := 12)) ja_nil))))) jss_nil))) (jss_cons (js_frz 11 (js_if (jt_cmp (op_neD (Room.near64 hr)) raw_ne (je_callK (okk_surely_bent_1 T) hr px_of (ja_cons (je_var (i := 1)) (ja_cons (je_var (i := 2)) (ja_cons (je_callT call_tuple_of raw_tuple T.n_tuple Boot.«tuple» (ja_cons (je_var (i := 8)) ja_nil)) ja_nil))) (jk_cons (je_var (i := 7)) jk_nil)) (je_callT call_tuple_of raw_tuple T.n_tuple Boot.«tuple» (ja_cons (je_var (i := 11)) ja_nil)) (nomark _)) (jss_one (js_ret je_bl)) jss_nil)) (jss_cons (js_if (jt_cmp (op_neD (Room.near64 hr)) raw_ne (je_callK (okk_round_error_1 T) hr px_of (ja_cons (je_var (i := 1)) ja_nil) (jk_cons (je_var (i := 3)) jk_nil)) (je_callB (CallR.or' (cr_sum rfl) (cr_sumT rfl)) (rawL_or raw_sum raw_sumT) T.n_sum Boot.«sum» (ja_cons (je_call (ok__law_lengths T) hr px_of (ja_cons (je_var (i := 1)) (ja_cons je_int (ja_cons (je_var (i := 3)) (ja_cons (je_call (ok__law_cycle T) hr px_of (ja_cons (je_var (i := 1)) ja_nil)) ja_nil))))) ja_nil)) (nomark _)) (jss_one (js_ret je_bl)) jss_nil) (jss_cons (js_set (i := 14) sc__law_right.nd (je_callD (i := 0) (ok__law_pick T) hr px_of (ja_cons (je_lst (ja_cons je_non (ja_cons (je_lst ja_nil) (ja_cons (je_tup (ja_cons (je_tup (ja_cons je_int (ja_cons je_int ja_nil))) ja_nil)) (ja_cons (je_tup (ja_cons (je_tup (ja_cons je_int (ja_cons je_int (ja_cons je_int ja_nil)))) ja_nil)) (ja_cons (je_tup (ja_cons (je_tup (ja_cons je_int (ja_cons je_int (ja_cons je_int ja_nil)))) ja_nil)) (ja_cons (je_tup (ja_cons (je_tup (ja_cons je_int (ja_cons je_int (ja_cons je_int ja_nil)))) ja_nil)) (ja_cons (je_tup (ja_cons (je_tup (ja_cons je_int (ja_cons je_int (ja_cons je_int ja_nil)))) (ja_cons (je_tup (ja_cons je_int (ja_cons je_int (ja_cons je_int ja_nil)))) ja_nil))) (ja_cons (je_bin op_mulB raw_mulB (je_tup (ja_cons (je_tup (ja_cons je_int (ja_cons je_int (ja_cons je_int ja_nil)))) ja_nil)) je_int) ja_nil))))))))) ja_nil))) (jss_cons (js_set (i := 15) sc__law_right.nd (je_lst (ja_cons (told_of T (k := 9) (by decide) hr (LamX.lamS_by (by (dsimp +instances only [cxOf, Cx.blk, envOfC, compEnvC, GX.gxCx, genEnv, LamX.lamCx, LamX.lamEnv, relabel, Env.kindOf]; decide +kernel))) (fun _ _ _ _ _ _ _ hrl _ _ _ => (je_call (ok_lengths T) hrl pl_of (ja_cons (je_tup ja_nil) (ja_cons je_non (ja_cons je_non (ja_cons je_non ja_nil))))))) (ja_cons (told_of T (k := 9) (by decide) hr (LamX.lamS_by (by (dsimp +instances only [cxOf, Cx.blk, envOfC, compEnvC, GX.gxCx, genEnv, LamX.lamCx, LamX.lamEnv, relabel, Env.kindOf]; decide +kernel))) (fun _ _ _ _ _ _ _ hrl _ _ _ => (je_call (ok_lengths T) hrl pl_of (ja_cons (je_var (i := 1)) (ja_cons (je_un un_neg raw_neg je_int) (ja_cons je_non (ja_cons je_non ja_nil))))))) (ja_cons (told_of T (k := 9) (by decide) hr (LamX.lamS_by (by (dsimp +instances only [cxOf, Cx.blk, envOfC, compEnvC, GX.gxCx, genEnv, LamX.lamCx, LamX.lamEnv, relabel, Env.kindOf]; decide +kernel))) (fun _ _ _ _ _ _ _ hrl _ _ _ => (je_call (ok_lengths T) hrl pl_of (ja_cons (je_var (i := 1)) (ja_cons (je_var (i := 2)) (ja_cons (je_var (i := 14)) (ja_cons je_non ja_nil))))))) (ja_cons (told_of T (k := 9) (by decide) hr (LamX.lamS_by (by (dsimp +instances only [cxOf, Cx.blk, envOfC, compEnvC, GX.gxCx, genEnv, LamX.lamCx, LamX.lamEnv, relabel, Env.kindOf]; decide +kernel))) (fun _ _ _ _ _ _ _ hrl _ _ _ => (je_call (ok_lengths T) hrl pl_of (ja_cons (je_var (i := 1)) (ja_cons (je_var (i := 2)) (ja_cons (je_var (i := 3)) (ja_cons je_int ja_nil))))))) (ja_cons (told_of T (k := 10) (by decide) hr (LamX.lamS_by (by (dsimp +instances only [cxOf, Cx.blk, envOfC, compEnvC, GX.gxCx, genEnv, LamX.lamCx, LamX.lamEnv, relabel, Env.kindOf]; decide +kernel))) (fun _ _ _ _ _ _ _ hrl _ _ _ => (je_call (ok_explanations T) hrl pl_of (ja_cons (je_var (i := 1)) (ja_cons (je_var (i := 2)) (ja_cons (je_lst (ja_cons je_int ja_nil)) (ja_cons je_non ja_nil))))))) (ja_cons (told_of T (k := 10) (by decide) hr (LamX.lamS_by (by (dsimp +instances only [cxOf, Cx.blk, envOfC, compEnvC, GX.gxCx, genEnv, LamX.lamCx, LamX.lamEnv, relabel, Env.kindOf]; decide +kernel))) (fun _ _ _ _ _ _ _ hrl _ _ _ => (je_call (ok_explanations T) hrl pl_of (ja_cons (je_var (i := 1)) (ja_cons (je_var (i := 2)) (ja_cons (je_tup (ja_cons je_int ja_nil)) (ja_cons je_int ja_nil))))))) (ja_cons (told_of T (k := 11) (by decide) hr (LamX.lamS_by (by (dsimp +instances only [cxOf, Cx.blk, envOfC, compEnvC, GX.gxCx, genEnv, LamX.lamCx, LamX.lamEnv, relabel, Env.kindOf]; decide +kernel))) (fun _ _ _ _ _ _ _ hrl _ _ _ => (je_call (ok_surely_bent T) hrl pl_of (ja_cons (je_var (i := 1)) (ja_cons (je_var (i := 2)) (ja_cons (je_tup (ja_cons je_bl ja_nil)) (ja_cons je_int ja_nil))))))) (ja_cons (told_of T (k := 9) (by decide) hr (LamX.lamS_by (by (dsimp +instances only [cxOf, Cx.blk, envOfC, compEnvC, GX.gxCx, genEnv, LamX.lamCx, LamX.lamEnv, relabel, Env.kindOf]; decide +kernel))) (fun _ _ _ _ _ _ _ hrl _ _ _ => (je_call (ok_round_error T) hrl pl_of (ja_cons (je_var (i := 1)) (ja_cons (je_var (i := 14)) ja_nil))))) ja_nil)))))))))) (jss_cons (js_set (i := 16) sc__law_right.nd (je_lst (ja_cons je_str (ja_cons je_str (ja_cons je_str (ja_cons je_str (ja_cons je_str (ja_cons je_str (ja_cons je_str (ja_cons je_str ja_nil)))))))))) (jss_one (js_ret (je_and (je_cmp (op_eqD (Room.near64 hr)) raw_eq (je_var (i := 15)) (je_var (i := 16)) (nomark _)) (je_and (je_call (ok_are_ticks T) hr px_of (ja_cons (je_callT call_tuple_of raw_tuple T.n_tuple Boot.«tuple» (ja_cons (je_var (i := 8)) ja_nil)) ja_nil)) (je_and (je_not (je_call (ok_are_bends T) hr px_of (ja_cons (je_var (i := 1)) (ja_cons (je_var (i := 14)) ja_nil)))) (je_one (je_not (je_call (ok_are_ticks T) hr px_of (ja_cons (je_tup (ja_cons je_str ja_nil)) ja_nil)))))))))))))))))))))))))) (by decide) (by decide)
theorem ok__law_right (T : Txt P w K mg base) : CalX P w K mg base 14 "_law_right" (spD T.G m__law_right) := (okf__law_right T).call fun _ _ _ _ _ _ us hl => match us, hl with | [_], _ => rfl
theorem sc__law_dice : FnScope ["script", "spot", "own", "mixed", "cell"] ["script", "spot"] (defScope st__law_dice) := ⟨rfl, rfl, rfl, by decide +kernel, rfl, by decide +kernel, by decide +kernel⟩
theorem okf__law_dice (T : Txt P w K mg base) : CalF P w K mg base 1 "_law_dice" st__law_dice ["script", "spot"] (spDice K) := dice_ok T.d__law_dice sc__law_dice fun f A outer s H E =>
  pss_cons (ps_set (i := 2) sc__law_dice.nd rfl (.inl rfl) (pe_ifExp (pt_cmpR op_lt (pe_var (i := 1) rfl (.inl rfl)) (pe_callB call_len_seq rfl T.n_len Boot.«len» (pa_cons (pe_var (i := 0) rfl (.inl rfl)) pa_nil)) (nomark _)) (pe_ix ix_list (pe_var (i := 0) rfl (.inl rfl)) (pe_var (i := 1) rfl (.inl rfl)) (fun _ _ => rfl)) (pe_op op_add (pe_op op_mul pe_int (pe_var (i := 1) rfl (.inl rfl))) pe_int)))
  (pss_cons (ps_set (i := 3) sc__law_dice.nd rfl (.inl rfl) (pe_op op_add pe_int (pe_op op_mul pe_int (pe_var (i := 1) rfl (.inl rfl)))))
  (pss_cons (ps_for po_of rfl (pi_list (pe_op op_cat (pe_slice sl_list (pe_var (i := 0) rfl (.inl rfl)) po_none (po_some pe_int)) (pe_lst (pa_cons (pe_var (i := 2) rfl (.inl rfl)) pa_nil)))) (pg_name (i := 4) sc__law_dice.nd rfl (.inl rfl))
      (pss_one (ps_set (i := 3) sc__law_dice.nd rfl (.inl rfl) (pe_op op_modN (pe_callTy call_int1 rfl T.n_int Boot.«int» (pa_cons (pe_op op_add (pe_op op_mul (pe_var (i := 3) rfl (.inl rfl)) pe_int) (pe_op op_modN (pe_callTy call_int1 rfl T.n_int Boot.«int» (pa_cons (pe_var (i := 4) rfl (.inl rfl)) pa_nil)) pe_int)) pa_nil)) pe_int))))
  (pss_one (ps_ret (pe_lst (pa_cons (pe_ifExp (PW.pt (pw_or (pt_cmpR op_lt (pe_var (i := 2) rfl (.inl rfl)) pe_int (nomark _)) (pw_or1 (pt_cmpR op_ge (pe_var (i := 2) rfl (.inl rfl)) (pe_op op_pow pe_int pe_int) (nomark _))))) (pe_callB call_abs rfl T.n_abs Boot.«abs» (pa_cons (pe_var (i := 2) rfl (.inl rfl)) pa_nil)) pe_int) (pa_cons (pe_var (i := 3) rfl (.inl rfl)) (pa_cons pe_int pa_nil))))))))
theorem ok__law_dice (T : Txt P w K mg base) : CalX P w K mg base 1 "_law_dice" (spDice K) := (okf__law_dice T).call fun _ _ _ _ _ _ us hl => match us, hl with | [_, _], _ => rfl
theorem sc_law : FnScope ["script", "spot"] ["script"] (defScope st_law) := ⟨rfl, rfl, rfl, by decide +kernel, rfl, by decide +kernel, by decide +kernel⟩
theorem fn_law (T : Txt P w K mg base) (fair : Fair m__law_right) {f : Addr} {oc kV doc pm ct : Value} {od an : Option Addr} {osl : Array (Option Value)} (lk : K.lookup f = some ⟨oc, od, .func (PySem.W.fnOf "law" "law" (defArgs st_law) (defBody st_law) (defScope st_law) .none kV doc pm an (.ref T.k_law) ct), osl⟩) (hcd : PySem.W.codeIn K (.ref T.k_law) "law" = true) :
    FnOk P w K mg base (L2.CX P w) (14 + 1) f (PySem.W.fnOf "law" "law" (defArgs st_law) (defBody st_law) (defScope st_law) .none kV doc pm an (.ref T.k_law) ct) ["script"] (spLaw K T.G) :=
  law_ok (most := 4) lk hcd sc_law (by decide) fair fun A outer s H E hr =>
    pss_cons (ps_for po_of rfl (pi_range1 rfl T.n_range (pa_cons (pe_callB (call_max2 rfl) rfl T.n_max Boot.«max» (pa_cons pe_int (pa_cons (pe_callB (call_min2 rfl) rfl T.n_min Boot.«min» (pa_cons pe_int (pa_cons (pe_callB call_len_seq rfl T.n_len Boot.«len» (pa_cons (pe_var (i := 0) rfl (.inl rfl)) pa_nil)) pa_nil))) pa_nil))) pa_nil)) (pg_name (i := 1) sc_law.nd rfl (.inl rfl))
      (pss_one (ps_if (pt_not (pt_right (ok__law_right T) (ok__law_dice T) hr (by decide) (by decide) passL rfl rfl (pe_var (i := 0) rfl (.inl rfl)) (pe_var (i := 1) rfl (.inl rfl)) rfl rfl rfl rfl rfl (fun _ => rfl))) (pss_one (ps_ret pe_bl)) pss_nil)))
    (pss_one (ps_ret pe_bl))

theorem all_mk {q : Program} {w : World} {K : PySem.W.Frag} {h : Heap} {mg : Str → Option Value} {fa CB lt : Addr} (X : K.In h) (G : h.Ns mainGlobals mg) (hfa : mg "law" = some (.ref fa)) (AT : TabsAll K q h) (fair : Fair m__law_right)
    {k_is_integer k_need_integer k_is_wheel k_is_train k_need_train k_places_at k_are_ticks k_need_ticks k_is_bend k_are_bends k_lengths k_working k_single k_double k_explanations k_surely_bent k_round_error k_greatest k__law_dice k__law_roll k__law_pick k__law_refused k__law_train k__law_places k__law_cycle k__law_lengths k__law_lots k__law_right k_law p_is_wheel p_is_train p_are_ticks p_is_bend p_are_bends : Addr}
    (d_is_integer : DefK K "is_integer" st_is_integer k_is_integer) (d_need_integer : DefK K "need_integer" st_need_integer k_need_integer) (d_is_wheel : DefK K "is_wheel" st_is_wheel k_is_wheel) (d_is_train : DefK K "is_train" st_is_train k_is_train) (d_need_train : DefK K "need_train" st_need_train k_need_train) (d_places_at : DefK K "places_at" st_places_at k_places_at) (d_are_ticks : DefK K "are_ticks" st_are_ticks k_are_ticks) (d_need_ticks : DefK K "need_ticks" st_need_ticks k_need_ticks) (d_is_bend : DefK K "is_bend" st_is_bend k_is_bend) (d_are_bends : DefK K "are_bends" st_are_bends k_are_bends) (d_lengths : DefK K "lengths" st_lengths k_lengths) (d_working : DefK K "working" st_working k_working) (d_single : DefK K "single" st_single k_single) (d_double : DefK K "double" st_double k_double) (d_explanations : DefK K "explanations" st_explanations k_explanations) (d_surely_bent : DefK K "surely_bent" st_surely_bent k_surely_bent) (d_round_error : DefK K "round_error" st_round_error k_round_error) (d_greatest : DefK K "greatest" st_greatest k_greatest) (d__law_dice : DefK K "_law_dice" st__law_dice k__law_dice) (d__law_roll : DefK K "_law_roll" st__law_roll k__law_roll) (d__law_pick : DefK K "_law_pick" st__law_pick k__law_pick) (d__law_refused : DefK K "_law_refused" st__law_refused k__law_refused) (d__law_train : DefK K "_law_train" st__law_train k__law_train) (d__law_places : DefK K "_law_places" st__law_places k__law_places) (d__law_cycle : DefK K "_law_cycle" st__law_cycle k__law_cycle) (d__law_lengths : DefK K "_law_lengths" st__law_lengths k__law_lengths) (d__law_lots : DefK K "_law_lots" st__law_lots k__law_lots) (d__law_right : DefK K "_law_right" st__law_right k__law_right) (d_law : DefK K "law" st_law k_law)
    (t_is_wheel : PySem.W.tabIn K "is_wheel" = some (k_is_wheel, p_is_wheel)) (r_is_wheel : ((recsOf q).find? fun e => e.name == ("is_wheel" : Str)).isSome = true) (z_is_wheel : K.lookup p_is_wheel = none) (t_is_train : PySem.W.tabIn K "is_train" = some (k_is_train, p_is_train)) (r_is_train : ((recsOf q).find? fun e => e.name == ("is_train" : Str)).isSome = true) (z_is_train : K.lookup p_is_train = none) (t_are_ticks : PySem.W.tabIn K "are_ticks" = some (k_are_ticks, p_are_ticks)) (r_are_ticks : ((recsOf q).find? fun e => e.name == ("are_ticks" : Str)).isSome = true) (z_are_ticks : K.lookup p_are_ticks = none) (t_is_bend : PySem.W.tabIn K "is_bend" = some (k_is_bend, p_is_bend)) (r_is_bend : ((recsOf q).find? fun e => e.name == ("is_bend" : Str)).isSome = true) (z_is_bend : K.lookup p_is_bend = none) (t_are_bends : PySem.W.tabIn K "are_bends" = some (k_are_bends, p_are_bends)) (r_are_bends : ((recsOf q).find? fun e => e.name == ("are_bends" : Str)).isSome = true) (z_are_bends : K.lookup p_are_bends = none) (t__law_right : PySem.W.tabIn K "_law_right" = some (k__law_right, lt)) (r__law_right : ((recsOf q).find? fun e => e.name == ("_law_right" : Str)).isSome = true) (z__law_right : K.lookup lt = none)
    (bad : BadK PySem.Challenge.rw_benchclocks_k02_whole_bent.prog K "BadArgument" CB) (seen : SeenX K CB) (l_is_wheel : p_is_wheel ≠ lt) (l_is_train : p_is_train ≠ lt) (l_are_ticks : p_are_ticks ≠ lt) (l_is_bend : p_is_bend ≠ lt) (l_are_bends : p_are_bends ≠ lt) (n_super : PySem.W.nsIn K mainGlobals "super" = some none)
    (n_abs : PySem.W.nsIn K mainGlobals "abs" = some none) (n_all : PySem.W.nsIn K mainGlobals "all" = some none) (n_bool : PySem.W.nsIn K mainGlobals "bool" = some none) (n_int : PySem.W.nsIn K mainGlobals "int" = some none) (n_isinstance : PySem.W.nsIn K mainGlobals "isinstance" = some none) (n_len : PySem.W.nsIn K mainGlobals "len" = some none) (n_max : PySem.W.nsIn K mainGlobals "max" = some none) (n_min : PySem.W.nsIn K mainGlobals "min" = some none) (n_range : PySem.W.nsIn K mainGlobals "range" = some none) (n_sorted : PySem.W.nsIn K mainGlobals "sorted" = some none) (n_sum : PySem.W.nsIn K mainGlobals "sum" = some none) (n_tuple : PySem.W.nsIn K mainGlobals "tuple" = some none) (n_zip : PySem.W.nsIn K mainGlobals "zip" = some none)
    (c_MOST_BENT : ∃ u, PySem.W.nsIn K mainGlobals "MOST_BENT" = some (some u) ∧ RelV (.int 2) u) (c_MOST_LENGTH : ∃ u, PySem.W.nsIn K mainGlobals "MOST_LENGTH" = some (some u) ∧ RelV (.int 1000000) u) (c_MOST_TEETH : ∃ u, PySem.W.nsIn K mainGlobals "MOST_TEETH" = some (some u) ∧ RelV (.int 60) u) (c_MOST_TICKS : ∃ u, PySem.W.nsIn K mainGlobals "MOST_TICKS" = some (some u) ∧ RelV (.int 120) u) (c_MOST_WHEELS : ∃ u, PySem.W.nsIn K mainGlobals "MOST_WHEELS" = some (some u) ∧ RelV (.int 6) u) :
    LamX.LawAtS PySem.Challenge.rw_benchclocks_k02_whole_bent w K (L2.CX PySem.Challenge.rw_benchclocks_k02_whole_bent.prog w) 15 63 "script" mg fa h := by
  obtain ⟨fL, oc, od, kV, doc, pm, an, ct, osl, aL, qL, lL, cL⟩ := d_law.ex
  have e := hfa.symm.trans (PySem.W.mg_of X G aL)
  cases e
  obtain ⟨dd_is_wheel, e_is_wheel⟩ := find_rec r_is_wheel
  have u_is_wheel := AT _ _ _ _ e_is_wheel t_is_wheel
  obtain ⟨dd_is_train, e_is_train⟩ := find_rec r_is_train
  have u_is_train := AT _ _ _ _ e_is_train t_is_train
  obtain ⟨dd_are_ticks, e_are_ticks⟩ := find_rec r_are_ticks
  have u_are_ticks := AT _ _ _ _ e_are_ticks t_are_ticks
  obtain ⟨dd_is_bend, e_is_bend⟩ := find_rec r_is_bend
  have u_is_bend := AT _ _ _ _ e_is_bend t_is_bend
  obtain ⟨dd_are_bends, e_are_bends⟩ := find_rec r_are_bends
  have u_are_bends := AT _ _ _ _ e_are_bends t_are_bends
  obtain ⟨dd__law_right, e__law_right⟩ := find_rec r__law_right
  have u__law_right := AT _ _ _ _ e__law_right t__law_right
  obtain ⟨u_MOST_BENT, v_MOST_BENT, w_MOST_BENT⟩ := c_MOST_BENT
  obtain ⟨u_MOST_LENGTH, v_MOST_LENGTH, w_MOST_LENGTH⟩ := c_MOST_LENGTH
  obtain ⟨u_MOST_TEETH, v_MOST_TEETH, w_MOST_TEETH⟩ := c_MOST_TEETH
  obtain ⟨u_MOST_TICKS, v_MOST_TICKS, w_MOST_TICKS⟩ := c_MOST_TICKS
  obtain ⟨u_MOST_WHEELS, v_MOST_WHEELS, w_MOST_WHEELS⟩ := c_MOST_WHEELS
  refine ⟨PySem.W.fnOf "law" "law" (defArgs st_law) (defBody st_law) (defScope st_law) .none kV doc pm an (.ref k_law) ct, [(k_is_wheel, p_is_wheel), (k_is_train, p_is_train), (k_are_ticks, p_are_ticks), (k_is_bend, p_is_bend), (k_are_bends, p_are_bends), (k__law_right, lt)], spLaw K ⟨K, CB, [p_is_wheel, p_is_train, p_are_ticks, p_is_bend, p_are_bends, lt], lt, "_law_right" ++ ".<locals>." ++ "<lambda>"⟩, ?_, ?_, ?_, fun s u => .of_eq rfl, fun H a ns _ _ hH hS => ⟨a, ns, rfl, hS, tabs_of hH rfl, fun _ => rfl⟩, fun base hK hN hTB => ?_⟩
  · intro p hp
    simp only [List.mem_cons, List.not_mem_nil, or_false] at hp
    rcases hp with rfl | rfl | rfl | rfl | rfl | rfl
    · exact u_is_wheel.2
    · exact u_is_train.2
    · exact u_are_ticks.2
    · exact u_is_bend.2
    · exact u_are_bends.2
    · exact u__law_right.2
  · intro p hp
    simp only [List.mem_cons, List.not_mem_nil, or_false] at hp
    rcases hp with rfl | rfl | rfl | rfl | rfl | rfl
    · exact z_is_wheel
    · exact z_is_train
    · exact z_are_ticks
    · exact z_is_bend
    · exact z_are_bends
    · exact z__law_right
  · intro p hp
    simp only [List.mem_cons, List.not_mem_nil, or_false] at hp
    rcases hp with rfl | rfl | rfl | rfl | rfl | rfl
    · exact u_is_wheel.1
    · exact u_is_train.1
    · exact u_are_ticks.1
    · exact u_is_bend.1
    · exact u_are_bends.1
    · exact u__law_right.1
  · exact fn_law { CB := CB, lt := lt, k_is_integer := k_is_integer, k_need_integer := k_need_integer, k_is_wheel := k_is_wheel, k_is_train := k_is_train, k_need_train := k_need_train, k_places_at := k_places_at, k_are_ticks := k_are_ticks, k_need_ticks := k_need_ticks, k_is_bend := k_is_bend, k_are_bends := k_are_bends, k_lengths := k_lengths, k_working := k_working, k_single := k_single, k_double := k_double, k_explanations := k_explanations, k_surely_bent := k_surely_bent, k_round_error := k_round_error, k_greatest := k_greatest, k__law_dice := k__law_dice, k__law_roll := k__law_roll, k__law_pick := k__law_pick, k__law_refused := k__law_refused, k__law_train := k__law_train, k__law_places := k__law_places, k__law_cycle := k__law_cycle, k__law_lengths := k__law_lengths, k__law_lots := k__law_lots, k__law_right := k__law_right, k_law := k_law, p_is_wheel := p_is_wheel, p_is_train := p_is_train, p_are_ticks := p_are_ticks, p_is_bend := p_is_bend, p_are_bends := p_are_bends, d_is_integer := d_is_integer.at X G, d_need_integer := d_need_integer.at X G, d_is_wheel := d_is_wheel.at X G, d_is_train := d_is_train.at X G, d_need_train := d_need_train.at X G, d_places_at := d_places_at.at X G, d_are_ticks := d_are_ticks.at X G, d_need_ticks := d_need_ticks.at X G, d_is_bend := d_is_bend.at X G, d_are_bends := d_are_bends.at X G, d_lengths := d_lengths.at X G, d_working := d_working.at X G, d_single := d_single.at X G, d_double := d_double.at X G, d_explanations := d_explanations.at X G, d_surely_bent := d_surely_bent.at X G, d_round_error := d_round_error.at X G, d_greatest := d_greatest.at X G, d__law_dice := d__law_dice.at X G, d__law_roll := d__law_roll.at X G, d__law_pick := d__law_pick.at X G, d__law_refused := d__law_refused.at X G, d__law_train := d__law_train.at X G, d__law_places := d__law_places.at X G, d__law_cycle := d__law_cycle.at X G, d__law_lengths := d__law_lengths.at X G, d__law_lots := d__law_lots.at X G, d__law_right := d__law_right.at X G, d_law := d_law.at X G, bad := bad.bad X G (PySem.W.mg_none_of X G n_super), seen := seen, t_is_wheel := hTB (k_is_wheel, p_is_wheel) (by simp), l_is_wheel := l_is_wheel, t_is_train := hTB (k_is_train, p_is_train) (by simp), l_is_train := l_is_train, t_are_ticks := hTB (k_are_ticks, p_are_ticks) (by simp), l_are_ticks := l_are_ticks, t_is_bend := hTB (k_is_bend, p_is_bend) (by simp), l_is_bend := l_is_bend, t_are_bends := hTB (k_are_bends, p_are_bends) (by simp), l_are_bends := l_are_bends, t__law_right := hTB (k__law_right, lt) (by simp), n_abs := PySem.W.mg_none_of X G n_abs, n_all := PySem.W.mg_none_of X G n_all, n_bool := PySem.W.mg_none_of X G n_bool, n_int := PySem.W.mg_none_of X G n_int, n_isinstance := PySem.W.mg_none_of X G n_isinstance, n_len := PySem.W.mg_none_of X G n_len, n_max := PySem.W.mg_none_of X G n_max, n_min := PySem.W.mg_none_of X G n_min, n_range := PySem.W.mg_none_of X G n_range, n_sorted := PySem.W.mg_none_of X G n_sorted, n_sum := PySem.W.mg_none_of X G n_sum, n_tuple := PySem.W.mg_none_of X G n_tuple, n_zip := PySem.W.mg_none_of X G n_zip, c_MOST_BENT := ⟨u_MOST_BENT, PySem.W.mg_of X G v_MOST_BENT, w_MOST_BENT⟩, c_MOST_LENGTH := ⟨u_MOST_LENGTH, PySem.W.mg_of X G v_MOST_LENGTH, w_MOST_LENGTH⟩, c_MOST_TEETH := ⟨u_MOST_TEETH, PySem.W.mg_of X G v_MOST_TEETH, w_MOST_TEETH⟩, c_MOST_TICKS := ⟨u_MOST_TICKS, PySem.W.mg_of X G v_MOST_TICKS, w_MOST_TICKS⟩, c_MOST_WHEELS := ⟨u_MOST_WHEELS, PySem.W.mg_of X G v_MOST_WHEELS, w_MOST_WHEELS⟩ } fair lL cL
end
end Lay.K02

set_option Elab.async false
set_option linter.all false
set_option maxRecDepth 100000
set_option maxHeartbeats 2000000
/-! k01: wheels, plain -/
namespace Lay.K01
abbrev W := Nat × Nat
def WOk (w : W) : Prop := 2 ≤ w.1 ∧ w.1 ≤ 9 ∧ 1 ≤ w.2 ∧ w.2 < w.1
def turn (w : W) : Nat := w.1 / Nat.gcd w.1 w.2
def val (w : W) (b : Nat) : Nat := b * w.2 % w.1
theorem wheels {p : Nat → Nat → Bool} (h : ((List.range 10).all fun t => (List.range t).all fun s => decide (t < 2) || decide (s < 1) || p t s) = true) {w : W} (k : WOk w) : p w.1 w.2 = true := by
  obtain ⟨h1, h2, h3, h4⟩ := k
  have a := List.all_eq_true.mp h w.1 (List.mem_range.mpr (by omega))
  have b := List.all_eq_true.mp a w.2 (List.mem_range.mpr h4)
  rw [decide_eq_false (by omega), decide_eq_false (by omega)] at b
  exact b
theorem turn_pos {w : W} (k : WOk w) : 1 ≤ turn w ∧ turn w ≤ 9 := by
  have := wheels (p := fun t s => decide (1 ≤ turn (t, s)) && decide (turn (t, s) ≤ 9)) (by decide +kernel) k
  simpa using this
theorem val_turn {w : W} (k : WOk w) : turn w * w.2 % w.1 = 0 := by
  have := wheels (p := fun t s => decide (turn (t, s) * s % t = 0)) (by decide +kernel) k
  simpa using this
theorem val_inj {w : W} (k : WOk w) {a b : Nat} (ha : a < turn w) (hb : b < turn w) (e : val w a = val w b) : a = b := by
  have := wheels (p := fun t s => (List.range (turn (t, s))).all fun a => (List.range (turn (t, s))).all fun b => !decide (val (t, s) a = val (t, s) b) || decide (a = b)) (by decide +kernel) k
  have h1 := List.all_eq_true.mp this a (List.mem_range.mpr ha)
  have h2 := List.all_eq_true.mp h1 b (List.mem_range.mpr hb)
  rw [decide_eq_true e] at h2
  simpa using h2
theorem val_lt {w : W} (k : WOk w) (b : Nat) : val w b < w.1 := Nat.mod_lt _ (by have := k.1; omega)
theorem val_mod {w : W} (k : WOk w) (b : Nat) : val w (b % turn w) = val w b := by
  have h := val_turn k
  obtain ⟨c, hc⟩ := Nat.dvd_of_mod_eq_zero h
  unfold val
  conv => rhs; rw [← Nat.mod_add_div b (turn w)]
  rw [Nat.add_mul, Nat.mul_assoc, Nat.mul_comm (b / turn w), ← Nat.mul_assoc, hc, Nat.mul_assoc, Nat.add_mul_mod_self_left]
theorem val_per {w : W} (k : WOk w) {L : Nat} (h : turn w ∣ L) (b : Nat) : val w (b % L) = val w b := by
  rw [← val_mod k (b % L), Nat.mod_mod_of_dvd _ h, val_mod k]
theorem val_zero {w : W} (k : WOk w) (b : Nat) : val w b = 0 ↔ turn w ∣ b := by
  rw [← val_mod k b]
  constructor
  · intro h
    have := val_inj k (a := b % turn w) (b := 0) (Nat.mod_lt _ (turn_pos k).1) (turn_pos k).1 (by rw [h]; unfold val; simp)
    exact Nat.dvd_of_mod_eq_zero this
  · intro h
    rw [Nat.mod_eq_zero_of_dvd h]; unfold val; simp
/-! ### the cycle -/
def lc (m u : Nat) : Nat := m / Nat.gcd m u * u
theorem lc_eq (m u : Nat) : lc m u = Nat.lcm m u := by
  unfold lc Nat.lcm
  rw [Nat.div_mul_right_comm (Nat.gcd_dvd_left m u)]
def cyc (ws : List W) : Nat := ws.foldl (fun m w => lc m (turn w)) 1
theorem cyc_go : ∀ (ws : List W) (m : Nat), 0 < m → (∀ w ∈ ws, WOk w) → 0 < ws.foldl (fun m w => lc m (turn w)) m ∧ (∀ b, ws.foldl (fun m w => lc m (turn w)) m ∣ b ↔ m ∣ b ∧ ∀ w ∈ ws, turn w ∣ b) ∧ ws.foldl (fun m w => lc m (turn w)) m ≤ m * 9 ^ ws.length
  | [], m, h, _ => ⟨h, fun b => ⟨fun x => ⟨x, fun w hw => (by cases hw)⟩, fun x => x.1⟩, by simp⟩
  | w :: ws, m, h, hw => by
    rw [List.foldl_cons, lc_eq]
    have tp := turn_pos (hw w List.mem_cons_self)
    have hp : 0 < Nat.lcm m (turn w) := Nat.lcm_pos h tp.1
    obtain ⟨a, b, c⟩ := cyc_go ws (Nat.lcm m (turn w)) hp fun x hx => hw x (List.mem_cons_of_mem _ hx)
    refine ⟨a, fun n => ?_, Nat.le_trans c ?_⟩
    · rw [b n]
      constructor
      · rintro ⟨x, y⟩
        refine ⟨Nat.dvd_trans (Nat.dvd_lcm_left _ _) x, fun v hv => ?_⟩
        rcases List.mem_cons.mp hv with rfl | hv
        · exact Nat.dvd_trans (Nat.dvd_lcm_right _ _) x
        · exact y v hv
      · rintro ⟨x, y⟩
        exact ⟨Nat.lcm_dvd x (y w List.mem_cons_self), fun v hv => y v (List.mem_cons_of_mem _ hv)⟩
    · rw [List.length_cons, Nat.pow_succ, Nat.mul_comm (9 ^ ws.length) 9, ← Nat.mul_assoc]
      refine Nat.mul_le_mul_right _ ?_
      have : Nat.lcm m (turn w) ≤ m * turn w := Nat.le_of_dvd (Nat.mul_pos h tp.1) (Nat.lcm_dvd (Nat.dvd_mul_right _ _) (Nat.dvd_mul_left _ _))
      exact Nat.le_trans this (Nat.mul_le_mul_left _ tp.2)
theorem cyc_pos {ws : List W} (h : ∀ w ∈ ws, WOk w) : 0 < cyc ws := (cyc_go ws 1 (by omega) h).1
theorem cyc_dvd {ws : List W} (h : ∀ w ∈ ws, WOk w) (b : Nat) : cyc ws ∣ b ↔ ∀ w ∈ ws, turn w ∣ b := by
  rw [show cyc ws = ws.foldl (fun m w => lc m (turn w)) 1 from rfl, (cyc_go ws 1 (by omega) h).2.1 b]
  exact ⟨fun x => x.2, fun x => ⟨Nat.one_dvd _, x⟩⟩
theorem cyc_le {ws : List W} (h : ∀ w ∈ ws, WOk w) (h3 : ws.length ≤ 3) : cyc ws ≤ 729 := by
  have := (cyc_go ws 1 (by omega) h).2.2
  have : (9 : Nat) ^ ws.length ≤ 9 ^ 3 := Nat.pow_le_pow_right (by omega) h3
  unfold cyc
  omega
theorem turn_cyc {ws : List W} (h : ∀ w ∈ ws, WOk w) {w : W} (hw : w ∈ ws) : turn w ∣ cyc ws := (cyc_dvd h _).mp (Nat.dvd_refl _) w hw
/-! ### rows of beats -/
def bf (w : W) (p : Nat) : Option (Nat × Nat) := ((List.range (turn w)).find? fun r => decide (val w r = p)).map fun r => (r, turn w)
def both (x y : Nat × Nat) : Option (Nat × Nat) := ((List.range (y.2 / Nat.gcd x.2 y.2)).find? fun c => decide ((x.1 + c * x.2) % y.2 = y.1 % y.2)).map fun c => (x.1 + c * x.2, x.2 / Nat.gcd x.2 y.2 * y.2)
theorem bf_none {w : W} (k : WOk w) {p : Nat} (h : bf w p = none) (b : Nat) : val w b ≠ p := by
  unfold bf at h
  rw [Option.map_eq_none_iff, List.find?_eq_none] at h
  intro e
  have := h (b % turn w) (List.mem_range.mpr (Nat.mod_lt _ (turn_pos k).1))
  rw [val_mod k b] at this
  simp [e] at this
theorem bf_some {w : W} (k : WOk w) {p r u : Nat} (h : bf w p = some (r, u)) : u = turn w ∧ r < u ∧ ∀ b, val w b = p ↔ b % u = r := by
  unfold bf at h
  obtain ⟨x, hx, e⟩ := Option.map_eq_some_iff.mp h
  cases e
  have h1 := List.mem_of_find?_eq_some hx
  have h2 := List.find?_some hx
  have h1 := List.mem_range.mp h1
  have h2 := of_decide_eq_true h2
  refine ⟨rfl, h1, fun b => ?_⟩
  rw [← val_mod k b]
  constructor
  · intro e
    exact val_inj k (Nat.mod_lt _ (turn_pos k).1) h1 (e.trans h2.symm)
  · intro e
    rw [e, h2]
theorem mul_gcd {m u : Nat} : u / Nat.gcd m u * m = m / Nat.gcd m u * u := by
  rw [Nat.div_mul_right_comm (Nat.gcd_dvd_right m u), Nat.div_mul_right_comm (Nat.gcd_dvd_left m u), Nat.mul_comm]
theorem both_none {f m r u : Nat} (hm : 0 < m) (hu : 0 < u) (hr : r < u) (h : both (f, m) (r, u) = none) (b : Nat) : ¬ (b % m = f ∧ b % u = r) := by
  unfold both at h
  rw [Option.map_eq_none_iff, List.find?_eq_none] at h
  dsimp only at h
  rintro ⟨h1, h2⟩
  have g0 : 0 < Nat.gcd m u := Nat.gcd_pos_of_pos_left _ hm
  have k0 : 0 < u / Nat.gcd m u := Nat.div_pos (Nat.le_of_dvd hu (Nat.gcd_dvd_right _ _)) g0
  have := h ((b / m) % (u / Nat.gcd m u)) (List.mem_range.mpr (Nat.mod_lt _ k0))
  refine this (decide_eq_true ?_)
  rw [Nat.mod_eq_of_lt hr, ← h2]
  have e1 : b = f + (b / m % (u / Nat.gcd m u)) * m + u * (m / Nat.gcd m u * (b / m / (u / Nat.gcd m u))) := by
    have a1 := Nat.mod_add_div b m
    have a2 := Nat.mod_add_div (b / m) (u / Nat.gcd m u)
    have a3 : u * (m / Nat.gcd m u * (b / m / (u / Nat.gcd m u))) = (u / Nat.gcd m u * (b / m / (u / Nat.gcd m u))) * m := by
      rw [← Nat.mul_assoc, Nat.mul_comm u, ← mul_gcd, Nat.mul_right_comm]
    rw [a3, Nat.add_assoc, ← Nat.add_mul, a2, ← h1, Nat.mul_comm (b / m), a1]
  conv => rhs; rw [e1]
  rw [Nat.add_mul_mod_self_left]
theorem both_some {f m r u f' m' : Nat} (hf : f < m) (hr : r < u) (h : both (f, m) (r, u) = some (f', m')) : f' < m' ∧ m' = lc m u ∧ ∀ b, (b % m = f ∧ b % u = r) ↔ b % m' = f' := by
  unfold both at h
  obtain ⟨c, hc, e⟩ := Option.map_eq_some_iff.mp h
  cases e
  have h1 := List.mem_range.mp (List.mem_of_find?_eq_some hc)
  have h2 := List.find?_some hc
  have h2 := of_decide_eq_true h2
  dsimp only at h1 h2 ⊢
  rw [Nat.mod_eq_of_lt hr] at h2
  have lt : f + c * m < m / Nat.gcd m u * u := by
    rw [← mul_gcd]
    have : (c + 1) * m ≤ u / Nat.gcd m u * m := Nat.mul_le_mul_right _ h1
    rw [Nat.add_mul, Nat.one_mul] at this
    omega
  refine ⟨lt, rfl, fun b => ?_⟩
  have el : m / Nat.gcd m u * u = Nat.lcm m u := lc_eq m u
  rw [el] at lt ⊢
  have b1 : b % Nat.lcm m u % m = b % m := Nat.mod_mod_of_dvd _ (Nat.dvd_lcm_left _ _)
  have b2 : b % Nat.lcm m u % u = b % u := Nat.mod_mod_of_dvd _ (Nat.dvd_lcm_right _ _)
  have fm : (f + c * m) % m = f := by rw [Nat.add_mul_mod_self_right, Nat.mod_eq_of_lt hf]
  constructor
  · rintro ⟨e1, e2⟩
    rw [← b1] at e1
    rw [← b2] at e2
    have lb : b % Nat.lcm m u < Nat.lcm m u := Nat.mod_lt _ (by omega)
    generalize b % Nat.lcm m u = x at *
    have key : ∀ {x y : Nat}, x % m = y % m → x % u = y % u → x < Nat.lcm m u → y ≤ x → x = y := fun {x y} h1 h2 hx hy => by
      have d1 : m ∣ x - y := Nat.dvd_of_mod_eq_zero (Nat.sub_mod_eq_zero_of_mod_eq h1)
      have d2 : u ∣ x - y := Nat.dvd_of_mod_eq_zero (Nat.sub_mod_eq_zero_of_mod_eq h2)
      have d := Nat.lcm_dvd d1 d2
      by_cases z : x - y = 0
      · omega
      · have := Nat.le_of_dvd (by omega) d
        omega
    rcases Nat.le_total (f + c * m) x with le | le
    · exact key (by rw [e1, fm]) (by rw [e2, h2]) lb le
    · exact (key (by rw [e1, fm]) (by rw [e2, h2]) lt le).symm
  · intro e
    rw [← b1, ← b2, e]
    exact ⟨fm, h2⟩
def hitB (w : W) (p : Option Nat) (b : Nat) : Bool := match p with
  | none => true
  | some p => decide (val w b = p)
def hits (l : List (W × Option Nat)) (b : Nat) : Bool := l.all fun x => hitB x.1 x.2 b
def solve : List (W × Option Nat) → Nat × Nat → Option (Nat × Nat)
  | [], fm => some fm
  | (w, none) :: l, fm => solve l fm
  | (w, some p) :: l, fm => match bf w p with
    | none => none
    | some ru => match both fm ru with
      | none => none
      | some fm' => solve l fm'
theorem solve_spec : ∀ (l : List (W × Option Nat)) (f m : Nat), (∀ x ∈ l, WOk x.1) → f < m → match solve l (f, m) with
    | none => ∀ b, ¬ (b % m = f ∧ hits l b = true)
    | some (f', m') => f' < m' ∧ ∀ b, (b % m = f ∧ hits l b = true) ↔ b % m' = f'
  | [], f, m, _, h => ⟨h, fun b => ⟨fun x => x.1, fun x => ⟨x, rfl⟩⟩⟩
  | (w, none) :: l, f, m, hw, h => by
    have ih := solve_spec l f m (fun x hx => hw x (List.mem_cons_of_mem _ hx)) h
    have e : ∀ b, hits ((w, none) :: l) b = hits l b := fun b => by
      unfold hits; rw [List.all_cons]; rfl
    show match solve l (f, m) with
      | none => _
      | some (f', m') => _
    cases hs : solve l (f, m) with
    | none =>
      rw [hs] at ih
      intro b; rw [e]; exact ih b
    | some x =>
      rw [hs] at ih
      refine ⟨ih.1, fun b => ?_⟩
      rw [e]; exact ih.2 b
  | (w, some p) :: l, f, m, hw, h => by
    have k := hw _ List.mem_cons_self
    have e : ∀ b, hits ((w, some p) :: l) b = (decide (val w b = p) && hits l b) := fun b => by
      unfold hits; rw [List.all_cons]; rfl
    unfold solve
    cases hb : bf w p with
    | none =>
      intro b
      rw [e, Bool.and_eq_true, decide_eq_true_eq]
      rintro ⟨_, z, _⟩
      exact bf_none k hb b z
    | some ru =>
      obtain ⟨r, u⟩ := ru
      obtain ⟨e1, hr, e2⟩ := bf_some k hb
      dsimp only
      cases hq : both (f, m) (r, u) with
      | none =>
        intro b
        rw [e, Bool.and_eq_true, decide_eq_true_eq, e2]
        rintro ⟨x, y, _⟩
        exact both_none (by omega) (by omega) hr hq b ⟨x, y⟩
      | some fm =>
        obtain ⟨f', m'⟩ := fm
        obtain ⟨lt, _, e3⟩ := both_some h hr hq
        have ih := solve_spec l f' m' (fun x hx => hw x (List.mem_cons_of_mem _ hx)) lt
        dsimp only
        cases hs : solve l (f', m') with
        | none =>
          rw [hs] at ih
          intro b
          rw [e, Bool.and_eq_true, decide_eq_true_eq, e2, ← and_assoc, e3]
          exact ih b
        | some x =>
          rw [hs] at ih
          refine ⟨ih.1, fun b => ?_⟩
          rw [e, Bool.and_eq_true, decide_eq_true_eq, e2, ← and_assoc, e3]
          exact ih.2 b
theorem hits_per {l : List (W × Option Nat)} {L : Nat} (hw : ∀ x ∈ l, WOk x.1 ∧ turn x.1 ∣ L) (b : Nat) : hits l (b % L) = hits l b := by
  unfold hits
  rw [Bool.eq_iff_iff, List.all_eq_true, List.all_eq_true]
  refine forall_congr' fun x => ?_
  refine ⟨fun h hx => ?_, fun h hx => ?_⟩
  · have := h hx
    unfold hitB at this ⊢
    rw [val_per (hw x hx).1 (hw x hx).2] at this
    exact this
  · have := h hx
    unfold hitB at this ⊢
    rw [val_per (hw x hx).1 (hw x hx).2]
    exact this
/-- the first beat told is the first of a whole cycle -/
theorem first_eq {l : List (W × Option Nat)} {L : Nat} (h0 : 0 < L) (hw : ∀ x ∈ l, WOk x.1 ∧ turn x.1 ∣ L) : (List.range L).find? (hits l) = (solve l (0, 1)).map fun x => x.1 % x.2 := by
  have sp := solve_spec l 0 1 (fun x hx => (hw x hx).1) (by omega)
  cases hs : solve l (0, 1) with
  | none =>
    rw [hs] at sp
    show _ = none
    rw [List.find?_eq_none]
    intro b hb e
    exact sp b ⟨Nat.mod_one b, e⟩
  | some x =>
    obtain ⟨f, m⟩ := x
    rw [hs] at sp
    obtain ⟨lt, e⟩ := sp
    have e : ∀ b, hits l b = true ↔ b % m = f := fun b => by rw [← e b, Nat.mod_one]; simp
    show _ = some (f % m)
    rw [Nat.mod_eq_of_lt lt]
    have hf : hits l f = true := (e f).mpr (Nat.mod_eq_of_lt lt)
    have lL : f < L := by
      have h1 := (e (f % L)).mp (by rw [hits_per hw]; exact hf)
      have h2 : f % L % m ≤ f % L := Nat.mod_le _ _
      have h3 := Nat.mod_lt f h0
      omega
    rw [List.find?_range_eq_some]
    refine ⟨hf, List.mem_range.mpr lL, fun j hj => ?_⟩
    rw [Bool.not_eq_true', Bool.eq_false_iff]
    intro z
    have h1 := (e j).mp z
    rw [Nat.mod_eq_of_lt (by omega)] at h1
    omega
/-! ### places that are visited -/
def seenL (w : W) : List Nat := (List.range (turn w)).map fun i => i * Nat.gcd w.1 w.2
theorem seen_mem {w : W} (k : WOk w) {L : Nat} (h0 : 0 < L) (h : turn w ∣ L) (p : Nat) : p ∈ seenL w ↔ ∃ b, b < L ∧ val w b = p := by
  have h1 := wheels (p := fun t s => (List.range t).all fun p => decide (p ∈ seenL (t, s)) == (List.range (turn (t, s))).any fun r => decide (val (t, s) r = p)) (by decide +kernel) k
  have h2 := wheels (p := fun t s => (seenL (t, s)).all fun p => decide (p < t)) (by decide +kernel) k
  have le : turn w ≤ L := Nat.le_of_dvd h0 h
  have key : ∀ p, p < w.1 → (p ∈ seenL w ↔ ∃ r, r < turn w ∧ val w r = p) := fun p hp => by
    have := List.all_eq_true.mp h1 p (List.mem_range.mpr hp)
    rw [beq_iff_eq, Bool.eq_iff_iff, decide_eq_true_eq, List.any_eq_true] at this
    rw [this]
    constructor
    · rintro ⟨r, hr, e⟩; exact ⟨r, List.mem_range.mp hr, of_decide_eq_true e⟩
    · rintro ⟨r, hr, e⟩; exact ⟨r, List.mem_range.mpr hr, decide_eq_true e⟩
  constructor
  · intro hp
    have lt := of_decide_eq_true (List.all_eq_true.mp h2 p hp)
    obtain ⟨r, hr, e⟩ := (key p lt).mp hp
    exact ⟨r, by omega, e⟩
  · rintro ⟨b, hb, e⟩
    refine (key p (e ▸ val_lt k b)).mpr ⟨b % turn w, Nat.mod_lt _ (turn_pos k).1, ?_⟩
    rw [val_mod k, e]
theorem seen_inc {w : W} (k : WOk w) : (seenL w).Pairwise (· < ·) := by
  have := wheels (p := fun t s => decide ((seenL (t, s)).Pairwise (· < ·))) (by decide +kernel) k
  simpa using this
theorem seen_len {w : W} : (seenL w).length = turn w := by unfold seenL; rw [List.length_map, List.length_range]
end Lay.K01

set_option Elab.async false
set_option linter.all false
set_option maxRecDepth 100000
set_option maxHeartbeats 2000000
/-! k02: bent teeth, plain -/
namespace Lay.K02
open Lay.K01

abbrev K := Nat × Nat
theorem filter_one {α : Type} {p : α → Bool} {a : α} : ∀ {l : List α}, l.Nodup → (∀ x ∈ l, p x = true → x = a) → a ∈ l → p a = true → l.filter p = [a]
  | [], _, _, h, _ => by cases h
  | x :: l, nd, hp, h, ha => by
    rw [List.nodup_cons] at nd
    by_cases e : x = a
    · subst e
      rw [List.filter_cons_of_pos ha]
      congr 1
      refine List.filter_eq_nil_iff.mpr fun y hy hpy => nd.1 ?_
      rw [← hp y (List.mem_cons_of_mem _ hy) hpy]
      exact hy
    · have hx : ¬ p x = true := fun z => e (hp x List.mem_cons_self z)
      rw [List.filter_cons_of_neg hx]
      rcases List.mem_cons.mp h with h | h
      · exact absurd h.symm e
      · exact filter_one nd.2 (fun y hy => hp y (List.mem_cons_of_mem _ hy)) h ha
def works (ws : List W) (k : K) (b : Nat) : Bool := decide (val (ws.getD k.1 (2, 1)) b = k.2)
def beats (ws : List W) (k : K) (n : Nat) : List Nat := (List.range n).filter (works ws k)
theorem mem_beats {ws : List W} {k : K} {n b : Nat} : b ∈ beats ws k n ↔ b < n ∧ works ws k b = true := by unfold beats; rw [List.mem_filter, List.mem_range]
/-! ### the teeth that work -/
def addK (l : List K) (k : K) : List K := if k ∈ l then l else l ++ [k]
def stepW (ws : List W) (b : Nat) (l : List K) (w : Nat) : List K := addK l (w, val (ws.getD w (2, 1)) b)
def stepB (ws : List W) (l : List K) (b : Nat) : List K := (List.range ws.length).foldl (stepW ws b) l
def keys (ws : List W) (n : Nat) : List K := (List.range n).foldl (stepB ws) []
theorem mem_addK {l : List K} {k x : K} : x ∈ addK l k ↔ x ∈ l ∨ x = k := by
  unfold addK
  split
  · rename_i h
    exact ⟨.inl, fun z => z.elim id fun e => by rw [e]; exact h⟩
  · rw [List.mem_append, List.mem_singleton]
theorem nodup_addK {l : List K} {k : K} (h : l.Nodup) : (addK l k).Nodup := by
  unfold addK
  split
  · exact h
  · rename_i hk
    rw [List.nodup_append]
    refine ⟨h, by simp, fun a ha b hb z => hk ?_⟩
    rw [List.mem_singleton] at hb
    rw [← hb, ← z]; exact ha
theorem foldW (ws : List W) (b : Nat) (l : List K) (h : l.Nodup) : ∀ n, ((List.range n).foldl (stepW ws b) l).Nodup ∧ ∀ x, x ∈ (List.range n).foldl (stepW ws b) l ↔ x ∈ l ∨ (x.1 < n ∧ val (ws.getD x.1 (2, 1)) b = x.2)
  | 0 => ⟨h, fun x => ⟨.inl, fun z => z.elim id fun z => absurd z.1 (by omega)⟩⟩
  | n + 1 => by
    obtain ⟨h1, h2⟩ := foldW ws b l h n
    rw [List.range_succ, List.foldl_append, List.foldl_cons, List.foldl_nil]
    refine ⟨nodup_addK h1, fun x => ?_⟩
    unfold stepW
    rw [mem_addK]
    show x ∈ (List.range n).foldl (stepW ws b) l ∨ _ ↔ _
    rw [h2 x]
    constructor
    · rintro ((z | ⟨z1, z2⟩) | z)
      · exact .inl z
      · exact .inr ⟨by omega, z2⟩
      · subst z; exact .inr ⟨Nat.lt_succ_self n, rfl⟩
    · rintro (z | ⟨z1, z2⟩)
      · exact .inl (.inl z)
      · by_cases e : x.1 = n
        · refine .inr (Prod.ext e ?_)
          show x.2 = val (ws.getD n (2, 1)) b
          rw [← e]; exact z2.symm
        · exact .inl (.inr ⟨by omega, z2⟩)
theorem keys_spec (ws : List W) : ∀ n, (keys ws n).Nodup ∧ ∀ x, x ∈ keys ws n ↔ x.1 < ws.length ∧ ∃ b, b < n ∧ val (ws.getD x.1 (2, 1)) b = x.2
  | 0 => ⟨List.nodup_nil, fun x => ⟨fun z => (by cases z), fun ⟨_, b, hb, _⟩ => absurd hb (by omega)⟩⟩
  | n + 1 => by
    obtain ⟨h1, h2⟩ := keys_spec ws n
    unfold keys at h1 h2 ⊢
    rw [List.range_succ, List.foldl_append, List.foldl_cons, List.foldl_nil]
    obtain ⟨h3, h4⟩ := foldW ws n _ h1 ws.length
    refine ⟨h3, fun x => (h4 x).trans ?_⟩
    rw [h2 x]
    constructor
    · rintro (⟨z1, b, hb, z2⟩ | ⟨z1, z2⟩)
      · exact ⟨z1, b, by omega, z2⟩
      · exact ⟨z1, n, Nat.lt_succ_self n, z2⟩
    · rintro ⟨z1, b, hb, z2⟩
      by_cases e : b = n
      · subst e; exact .inr ⟨z1, z2⟩
      · exact .inl ⟨z1, b, by omega, z2⟩
theorem addK_len {l : List K} {k : K} : (addK l k).length ≤ l.length + 1 := by
  unfold addK
  split
  · omega
  · rw [List.length_append]; simp
theorem foldW_len (ws : List W) (b : Nat) (l : List K) : ∀ n, ((List.range n).foldl (stepW ws b) l).length ≤ l.length + n
  | 0 => Nat.le_refl _
  | n + 1 => by
    rw [List.range_succ, List.foldl_append, List.foldl_cons, List.foldl_nil]
    have := foldW_len ws b l n
    have := addK_len (l := (List.range n).foldl (stepW ws b) l) (k := (n, val (ws.getD n (2, 1)) b))
    show (addK _ _).length ≤ _
    omega
theorem keys_len (ws : List W) : ∀ n, (keys ws n).length ≤ n * ws.length
  | 0 => by simp [keys]
  | n + 1 => by
    have := keys_len ws n
    unfold keys at this ⊢
    rw [List.range_succ, List.foldl_append, List.foldl_cons, List.foldl_nil]
    have := foldW_len ws n ((List.range n).foldl (stepB ws) []) ws.length
    rw [Nat.succ_mul]
    show (List.foldl (stepW ws n) _ _).length ≤ _
    omega
/-- the beats of a key so far: all of the beats ahead of b, b for the wheels ahead of w -/
def sofar (ws : List W) (b w : Nat) (k : K) : List Nat := beats ws k b ++ (if k.1 < w ∧ works ws k b = true then [b] else [])
theorem beats_succ {ws : List W} {k : K} {b : Nat} : beats ws k (b + 1) = beats ws k b ++ (if works ws k b = true then [b] else []) := by
  unfold beats
  rw [List.range_succ, List.filter_append]
  congr 1
  cases h : works ws k b <;> simp [h]
theorem sofar_zero {ws : List W} {b : Nat} {k : K} : sofar ws b 0 k = beats ws k b := by
  unfold sofar
  rw [if_neg (fun z => absurd z.1 (by omega)), List.append_nil]
theorem sofar_all {ws : List W} {b : Nat} {k : K} (h : k.1 < ws.length) : sofar ws b ws.length k = beats ws k (b + 1) := by
  unfold sofar
  rw [beats_succ]
  congr 1
  cases works ws k b <;> simp [h]
theorem sofar_same {ws : List W} {b w : Nat} : sofar ws b (w + 1) (w, val (ws.getD w (2, 1)) b) = sofar ws b w (w, val (ws.getD w (2, 1)) b) ++ [b] := by
  have h : works ws (w, val (ws.getD w (2, 1)) b) b = true := by unfold works; exact decide_eq_true rfl
  unfold sofar
  rw [if_pos ⟨Nat.lt_succ_self w, h⟩, if_neg (fun z => absurd z.1 (Nat.lt_irrefl _)), List.append_nil]
theorem sofar_other {ws : List W} {b w : Nat} {k : K} (h : k ≠ (w, val (ws.getD w (2, 1)) b)) : sofar ws b (w + 1) k = sofar ws b w k := by
  unfold sofar
  congr 1
  by_cases e : k.1 = w
  · have : ¬ works ws k b = true := fun z => h (by
      unfold works at z
      have z := of_decide_eq_true z
      rw [e] at z
      exact Prod.ext e z.symm)
    rw [if_neg (fun z => this z.2), if_neg (fun z => this z.2)]
  · have : k.1 < w + 1 ↔ k.1 < w := by omega
    simp only [this]
/-! ### errors that are tried -/
def errs (m : Nat) : List Int := ((List.range (2 * m + 1)).map fun i => -(m : Int) + (i : Nat)).filter fun e => !decide (e = 0)
theorem mem_errs {m : Nat} {e : Int} : e ∈ errs m ↔ e ≠ 0 ∧ -(m : Int) ≤ e ∧ e ≤ m := by
  unfold errs
  rw [List.mem_filter, List.mem_map]
  constructor
  · rintro ⟨⟨i, hi, rfl⟩, h⟩
    have := List.mem_range.mp hi
    refine ⟨by simpa using h, by omega, by omega⟩
  · rintro ⟨h0, h1, h2⟩
    exact ⟨⟨(e + m).toNat, List.mem_range.mpr (by omega), by omega⟩, by simpa using h0⟩
theorem nodup_errs (m : Nat) : (errs m).Nodup := by
  refine List.Pairwise.filter _ (List.pairwise_map.mpr ((List.nodup_range (n := 2 * m + 1)).imp fun {a b} h z => h ?_))
  omega
/-! ### one tooth -/
def sing (A : List Nat) (off : Nat → Int) (n : Nat) : Option Int :=
  if off (A.headD 0) = 0 then none else if ((List.range n).all fun b => decide (off b = if b ∈ A then off (A.headD 0) else 0)) = true then some (off (A.headD 0)) else none
def okOne (A : List Nat) (off : Nat → Int) (n : Nat) (e : Int) : Bool := (List.range n).all fun b => decide ((if b ∈ A then e else 0) = off b)
theorem okOne_iff {A : List Nat} {off : Nat → Int} {n : Nat} {e : Int} : okOne A off n e = true ↔ ∀ b, b < n → (if b ∈ A then e else 0) = off b := by
  unfold okOne
  rw [List.all_eq_true]
  exact ⟨fun h b hb => of_decide_eq_true (h b (List.mem_range.mpr hb)), fun h b hb => decide_eq_true (h b (List.mem_range.mp hb))⟩
theorem sing_eq {A : List Nat} {off : Nat → Int} {n m : Nat} (hA : A ≠ []) (hn : ∀ b ∈ A, b < n) (hm : ∀ b, b < n → -(m : Int) ≤ off b ∧ off b ≤ m) : (errs (2 * m)).filter (okOne A off n) = (sing A off n).toList := by
  obtain ⟨a, r, rfl⟩ : ∃ a r, A = a :: r := by
    cases A with
    | nil => exact absurd rfl hA
    | cons a r => exact ⟨a, r, rfl⟩
  have ha : a < n := hn a List.mem_cons_self
  have one : ∀ x, okOne (a :: r) off n x = true → x = off a := fun x h => by
    have := okOne_iff.mp h a ha
    rw [if_pos List.mem_cons_self] at this
    exact this
  unfold sing
  show _ = (if off a = 0 then none else if ((List.range n).all fun b => decide (off b = if b ∈ a :: r then off a else 0)) = true then some (off a) else none : Option Int).toList
  by_cases h0 : off a = 0
  · rw [if_pos h0]
    refine List.filter_eq_nil_iff.mpr fun x hx h => (mem_errs.mp hx).1 ?_
    rw [one x h, h0]
  · rw [if_neg h0]
    by_cases h1 : ((List.range n).all fun b => decide (off b = if b ∈ a :: r then off a else 0)) = true
    · have k : okOne (a :: r) off n (off a) = true := okOne_iff.mpr fun b hb => by
        rw [List.all_eq_true] at h1
        exact (of_decide_eq_true (h1 b (List.mem_range.mpr hb))).symm
      rw [if_pos h1]
      refine filter_one (nodup_errs _) (fun x _ h => one x h) (mem_errs.mpr ⟨h0, ?_, ?_⟩) k
      · have := hm a ha; omega
      · have := hm a ha; omega
    · rw [if_neg h1]
      refine List.filter_eq_nil_iff.mpr fun x hx h => h1 ?_
      have e := one x h
      subst e
      rw [List.all_eq_true]
      intro b hb
      exact decide_eq_true (okOne_iff.mp h b (List.mem_range.mp hb)).symm
/-! ### two teeth -/
def bothE (A B : List Nat) (f s : Int) (b : Nat) : Int := (if b ∈ A then f else 0) + (if b ∈ B then s else 0)
def chk (A B : List Nat) (off : Nat → Int) (n : Nat) (f s : Int) : Option (Int × Int) :=
  if f = 0 ∨ s = 0 then none else if ((List.range n).all fun b => decide (off b = bothE A B f s b)) = true then some (f, s) else none
def dbl (A B : List Nat) (off : Nat → Int) (n : Nat) : Option (Int × Int) :=
  match A.filter fun b => !decide (b ∈ B) with
  | a :: _ => chk A B off n (off a) (off (B.headD 0) - (if B.headD 0 ∈ A then off a else 0))
  | [] => match B.filter fun b => !decide (b ∈ A) with
    | r :: _ => chk A B off n (off (A.headD 0) - off r) (off r)
    | [] => none
def secE (A B : List Nat) (off : Nat → Int) (e : Int) : Int := off (B.headD 0) - (if B.headD 0 ∈ A then e else 0)
def okTwo (A B : List Nat) (off : Nat → Int) (n : Nat) (e : Int) : Bool := !decide (secE A B off e = 0) && (List.range n).all fun b => decide (off b - (if b ∈ A then e else 0) = if b ∈ B then secE A B off e else 0)
structure Sol (A B : List Nat) (off : Nat → Int) (n : Nat) (e s : Int) : Prop where
  e0 : e ≠ 0
  s0 : s ≠ 0
  all : ∀ b, b < n → off b = bothE A B e s b
theorem chk_some {A B : List Nat} {off : Nat → Int} {n : Nat} {f s : Int} (h : Sol A B off n f s) : chk A B off n f s = some (f, s) := by
  unfold chk
  rw [if_neg (fun z => z.elim h.e0 h.s0), if_pos (List.all_eq_true.mpr fun b hb => decide_eq_true (h.all b (List.mem_range.mp hb)))]
theorem chk_none {A B : List Nat} {off : Nat → Int} {n : Nat} {f s : Int} (h : ¬ Sol A B off n f s) : chk A B off n f s = none := by
  unfold chk
  split
  · rfl
  · rename_i h1
    split
    · rename_i h2
      refine absurd ⟨fun z => h1 (.inl z), fun z => h1 (.inr z), fun b hb => ?_⟩ h
      exact of_decide_eq_true (List.all_eq_true.mp h2 b (List.mem_range.mpr hb))
    · rfl
theorem two_iff {A B : List Nat} {off : Nat → Int} {n : Nat} {e : Int} (e0 : e ≠ 0) : okTwo A B off n e = true ↔ Sol A B off n e (secE A B off e) := by
  unfold okTwo
  rw [Bool.and_eq_true, List.all_eq_true]
  constructor
  · rintro ⟨h1, h2⟩
    refine ⟨e0, by simpa using h1, fun b hb => ?_⟩
    have := of_decide_eq_true (h2 b (List.mem_range.mpr hb))
    unfold bothE
    omega
  · rintro ⟨_, h1, h2⟩
    refine ⟨by simpa using h1, fun b hb => decide_eq_true ?_⟩
    have := h2 b (List.mem_range.mp hb)
    unfold bothE at this
    omega
theorem sol_sec {A B : List Nat} {off : Nat → Int} {n : Nat} {e s : Int} (hB : B ≠ []) (hb : ∀ b ∈ B, b < n) (h : Sol A B off n e s) : s = secE A B off e := by
  cases B with
  | nil => exact absurd rfl hB
  | cons b r =>
    have := h.all b (hb b List.mem_cons_self)
    unfold bothE at this
    rw [if_pos List.mem_cons_self] at this
    unfold secE
    show s = off b - (if b ∈ A then e else 0)
    omega
theorem dbl_eq {A B : List Nat} {off : Nat → Int} {n m : Nat} (hA : A ≠ []) (hB : B ≠ []) (ha : ∀ b ∈ A, b < n) (hb : ∀ b ∈ B, b < n) (hm : ∀ b, b < n → -(m : Int) ≤ off b ∧ off b ≤ m) (ne : ∃ b, b < n ∧ ¬ (b ∈ A ↔ b ∈ B)) :
    ((errs (2 * m)).filter (okTwo A B off n)).map (fun e => (e, secE A B off e)) = (dbl A B off n).toList := by
  -- the one pair that can be
  obtain ⟨f, s, hd, hr, uq⟩ : ∃ f s, dbl A B off n = chk A B off n f s ∧ (-((2 * m : Nat) : Int) ≤ f ∧ f ≤ ((2 * m : Nat) : Int)) ∧ ∀ e t, Sol A B off n e t → e = f ∧ t = s := by
    unfold dbl
    cases hf : A.filter fun b => !decide (b ∈ B) with
    | cons a r =>
      have : a ∈ A.filter fun b => !decide (b ∈ B) := by rw [hf]; exact List.mem_cons_self
      obtain ⟨h1, h2⟩ := List.mem_filter.mp this
      have h2 : a ∉ B := by simpa using h2
      refine ⟨_, _, rfl, ?_, fun e t h => ?_⟩
      · have := hm a (ha a h1); omega
      · have e1 : e = off a := by
          have := h.all a (ha a h1)
          unfold bothE at this
          rw [if_pos h1, if_neg h2] at this
          omega
        refine ⟨e1, ?_⟩
        rw [sol_sec hB hb h, e1]; rfl
    | nil =>
      dsimp only
      have sub : ∀ b ∈ A, b ∈ B := fun b h => by
        have := List.filter_eq_nil_iff.mp hf b h
        simpa using this
      cases hg : B.filter fun b => !decide (b ∈ A) with
      | nil =>
        exfalso
        obtain ⟨b, _, h⟩ := ne
        refine h ⟨sub b, fun hb => ?_⟩
        have := List.filter_eq_nil_iff.mp hg b hb
        simpa using this
      | cons r t =>
        have : r ∈ B.filter fun b => !decide (b ∈ A) := by rw [hg]; exact List.mem_cons_self
        obtain ⟨h1, h2⟩ := List.mem_filter.mp this
        have h2 : r ∉ A := by simpa using h2
        obtain ⟨a, q, rfl⟩ : ∃ a r, A = a :: r := by
          cases A with
          | nil => exact absurd rfl hA
          | cons a r => exact ⟨a, r, rfl⟩
        refine ⟨_, _, rfl, ?_, fun e t h => ?_⟩
        · have := hm a (ha a List.mem_cons_self)
          have := hm r (hb r h1)
          show _ ≤ off a - off r ∧ off a - off r ≤ _
          omega
        · have e1 := h.all r (hb r h1)
          have e2 := h.all a (ha a List.mem_cons_self)
          unfold bothE at e1 e2
          rw [if_neg h2, if_pos h1] at e1
          rw [if_pos List.mem_cons_self, if_pos (sub a List.mem_cons_self)] at e2
          show e = off a - off r ∧ t = off r
          omega
  rw [hd]
  by_cases h : Sol A B off n f s
  · rw [chk_some h]
    have e1 := sol_sec hB hb h
    rw [filter_one (a := f) (nodup_errs _) (fun x hx hx2 => (uq _ _ ((two_iff (mem_errs.mp hx).1).mp hx2)).1) (mem_errs.mpr ⟨h.e0, hr.1, hr.2⟩) ((two_iff h.e0).mpr (by rw [← e1]; exact h))]
    rw [List.map_cons, List.map_nil, ← e1]; rfl
  · rw [chk_none h]
    rw [List.filter_eq_nil_iff.mpr fun x hx hx2 => h (by
      have k := (two_iff (mem_errs.mp hx).1).mp hx2
      obtain ⟨e1, e2⟩ := uq _ _ k
      rw [e2] at k
      rw [e1] at k
      exact k)]
    rfl
theorem dbl_same {A : List Nat} {off : Nat → Int} {n : Nat} : dbl A A off n = none := by
  have : (A.filter fun b => !decide (b ∈ A)) = [] := List.filter_eq_nil_iff.mpr fun b hb => by simp [hb]
  unfold dbl
  rw [this]
end Lay.K02

set_option Elab.async false
set_option linter.all false
set_option maxRecDepth 100000
set_option maxHeartbeats 2000000
/-! k02: what the mirrors answer: trains, places, lengths -/
namespace Lay.K02
open PySem PySem.Spec PyProof.Rows L2 Lay Lay.K01

abbrev V (d : D) : Option SV := some (.v d)
abbrev nI (n : Nat) : D := .int (n : Nat)
def encW (w : W) : D := .tuple [nI w.1, nI w.2]
abbrev encT (ws : List W) : D := .tuple (ws.map encW)
abbrev encP (l : List Nat) : D := .tuple (l.map nI)
/-- a bent tooth -/
abbrev Bd := K × Int
def encB (x : Bd) : D := .tuple [nI x.1.1, nI x.1.2, .int x.2]
abbrev encBs (bs : List Bd) : D := .tuple (bs.map encB)
structure Tr (ws : List W) : Prop where
  one : ∀ w ∈ ws, WOk w
  pos : 1 ≤ ws.length
  len : ws.length ≤ 2
theorem roll_eq : m__law_roll = m_roll := rfl
theorem pick_eq : m__law_pick = m_pick := rfl
theorem need_ok {i lo hi : Int} (nm : Str) (h1 : lo ≤ i) (h2 : i ≤ hi) : m_need_integer [.int i, .str nm, .int lo, .int hi] = M.pure .none := g_need_ok nm h1 h2
theorem is_wheel_ok {w : W} (k : WOk w) : m_is_wheel [encW w] = M.pure (.bool true) := by
  obtain ⟨h1, h2, h3, h4⟩ := k
  refine mkF_rt ?_
  refine (seq_nx (ρ' := [V (encW w), none]) ((if_f (or_f rfl (or_f rfl (not_ok (x := true) (of_ok (all_ok rfl rfl)))))).trans rfl)).trans ?_
  refine ret_ok (eand_ok (x := true) (y := true) ?_ fun _ => ?_)
  · refine chain_ok (x := .int 2) (y := .int (w.1 : Nat)) (z := .int 60) (p := true) (q := true) rfl rfl ?_ rfl ?_
    · show some (PyData.bool (decide ((2 : Int) ≤ (w.1 : Nat)))) = _; rw [decide_eq_true (by omega)]
    · show some (PyData.bool (decide (((w.1 : Nat) : Int) ≤ 60))) = _; rw [decide_eq_true (by omega)]
  · refine chain_ok (x := .int 1) (y := .int (w.2 : Nat)) (z := .int (w.1 : Nat)) (p := true) (q := true) rfl rfl ?_ rfl ?_
    · show some (PyData.bool (decide ((1 : Int) ≤ (w.2 : Nat)))) = _; rw [decide_eq_true (by omega)]
    · show some (PyData.bool (decide (((w.2 : Nat) : Int) < (w.1 : Nat)))) = _; rw [decide_eq_true (by omega)]
theorem len_T {ρ : En} {i : Nat} {γ : Type} {f : γ → D} {ws : List γ} (h : getD ρ i = some (.tuple (ws.map f))) : eCallB dLen (lCons (eVar i) lNil) ρ = M.pure (nI ws.length) := by
  refine callB_ok (ds := [.tuple (ws.map f)]) (one_ok (var_ok h)) ?_
  show some (PyData.int ((ws.map f).length : Nat)) = _
  rw [List.length_map]
theorem len_L {ρ : En} {i : Nat} {γ : Type} {f : γ → D} {ws : List γ} (h : getD ρ i = some (.list (ws.map f))) : eCallB dLen (lCons (eVar i) lNil) ρ = M.pure (nI ws.length) := by
  refine callB_ok (ds := [.list (ws.map f)]) (one_ok (var_ok h)) ?_
  show some (PyData.int ((ws.map f).length : Nat)) = _
  rw [List.length_map]
theorem is_train_ok {ws : List W} (h : Tr ws) : m_is_train [encT ws] = M.pure (.bool true) := by
  refine mkF_rt ?_
  have e2 : eAll (.n 0) (itS (eVar 0)) (eCall m_is_wheel (lCons (eVar 0) lNil)) [] 1 ([encT ws].map (fun d => some (.v d)) ++ List.replicate (2 - 1) none) = M.pure (.bool true) := by
    have e : ws.all (fun _ => true) = true := List.all_eq_true.mpr fun _ _ => rfl
    rw [← e]
    exact all_ok rfl (all_go encW (fun _ => true) (fun c => [V (encW c)]) ws fun c hc => ⟨rfl, is_wheel_ok (h.one c hc)⟩)
  have e1 : eChain dLe dLe (eC (.int 1)) (eCallB dLen (lCons (eVar 0) lNil)) (eC (.int 6)) ([encT ws].map (fun d => some (.v d)) ++ List.replicate (2 - 1) none) = M.pure (.bool true) := by
    have h1 := h.pos
    have h2 := h.len
    refine chain_ok (x := .int 1) (y := .int (ws.length : Nat)) (z := .int 6) (p := true) (q := true) rfl (len_T rfl) ?_ rfl ?_
    · show some (PyData.bool (decide ((1 : Int) ≤ (ws.length : Nat)))) = _; rw [decide_eq_true (by omega)]
    · show some (PyData.bool (decide (((ws.length : Nat) : Int) ≤ 6))) = _; rw [decide_eq_true (by omega)]
  exact ret_ok (eand_ok (x := true) (y := true) rfl fun _ => eand_ok (x := true) (y := true) e1 fun _ => e2)
theorem need_train_ok {ws : List W} (h : Tr ws) (nm : Str) : m_need_train [encT ws, .str nm] = M.pure .none := by
  refine mkF_nx (ρ := [V (encT ws), V (.str nm)]) ?_
  exact (if_f (not_ok (x := true) (of_ok (is_train_ok h)))).trans rfl
theorem need_e {ws : List W} (h : Tr ws) {ρ : En} (e0 : getD ρ 0 = some (encT ws)) : sExp (eCall m_need_train (lCons (eVar 0) (lCons (eC (.str "train")) lNil))) ρ = M.pure (.nx ρ) :=
  exp_ok ((call_ok (ds := [encT ws, .str "train"]) (cons_ok (var_ok e0) rfl)).trans (need_train_ok h _))
/-! ### places -/
def vals (ws : List W) (b : Nat) : List Nat := ws.map fun w => val w b
theorem mod_ev {t s b : Nat} (ht : 0 < t) (hs : s < 100) {ρ : En} {i j k : Nat} (e1 : getD ρ i = some (nI b)) (e2 : getD ρ j = some (nI s)) (e3 : getD ρ k = some (nI t)) :
    eBin dMod (eBin dMulB (eVar i) (eVar j)) (eVar k) ρ = M.pure (nI (b * s % t)) :=
  bin_ok (x := nI (b * s)) (y := nI t) (bin_ok (x := nI b) (y := nI s) (var_ok e1) (var_ok e2) (mul_nat (by omega))) (var_ok e3) (mod_nat ht)
theorem places_at_eq {ws : List W} (h : Tr ws) (b : Nat) : m_places_at [encT ws, nI b] = M.pure (encP (vals ws b)) := by
  have hl := h.len
  refine mkF_rt ?_
  refine ret_ok (callB_ok (ds := [.list (ws.map fun w => .int (val w b : Nat))]) (one_ok ?_) (by show some (PyData.tuple _) = some (PyData.tuple _); rw [vals, List.map_map]; rfl))
  refine comp_ok (ds := ws.map encW) rfl ?_ (by rw [sizeLine_eq, List.length_map]; omega)
  have e := comp_go (ρ := [V (encT ws), V (.int (b : Nat)), none, none]) (tg := .t ((.n 2) :: ((.n 3) :: []))) (conds := bYes) (elt := eBin dMod (eBin dMulB (eVar 1) (eVar 3)) (eVar 2)) (vs := [2, 3]) encW (fun _ => true) (fun w => .int (val w b : Nat)) (fun w => [V (encT ws), V (.int (b : Nat)), V (.int (w.1 : Nat)), V (.int (w.2 : Nat))]) ws fun w hw => ⟨rfl, rfl, fun _ => by
    have k := h.one w hw
    exact mod_ev (by have := k.1; omega) (by have := k.2; omega) rfl rfl rfl⟩
  rw [List.filter_eq_self.mpr (fun _ _ => rfl)] at e
  exact e
theorem law_places_eq {ws : List W} (h : Tr ws) (b : Nat) : m__law_places [encT ws, nI b] = M.pure (encP (vals ws b)) := places_at_eq h b
theorem vals_at {ws : List W} {b i : Nat} (hi : i < ws.length) : ((vals ws b).map nI)[i]? = some (nI (val (ws.getD i (2, 1)) b)) := by
  rw [List.getElem?_map, vals, List.getElem?_map, List.getD_eq_getElem?_getD, List.getElem?_eq_getElem hi]; rfl
theorem row_ix {ws : List W} {b i : Nat} (hi : i < ws.length) : dIx (encP (vals ws b)) (nI i) = some (nI (val (ws.getD i (2, 1)) b)) := ixD_tup (vals_at hi)
/-! ### lengths -/
def sm (ws : List W) (bs : List Bd) (b : Nat) : Int := ((bs.filter fun x => works ws x.1 b).map (·.2)).sum
theorem sum_int (l : List Int) : dAlt dSum dSumT [.list (l.map .int)] = some (.int l.sum) := by
  have : dSum [.list (l.map .int)] = some (.int l.sum) := by
    show (intsD (l.map .int)).map _ = _
    rw [intsD_map]; rfl
  unfold dAlt
  rw [this]
/-- the base and what is bent -/
theorem sum_ev {ws : List W} {base : Int} {bs : List Bd} (hb : ∀ x ∈ bs, x.1.1 < ws.length) (hl : bs.length ≤ 16777216) {b : Nat} {ρ : En} (pos : Bd → En) (e1 : getD ρ 1 = some (.int base)) (e2 : getD ρ 2 = some (encBs bs))
    (hp : ∀ x, bindT (.t ((.n 7) :: ((.n 8) :: ((.n 9) :: [])))) (clr ρ [7, 8, 9]) (encB x) = some (pos x) ∧ getD (pos x) 6 = some (encP (vals ws b)) ∧ getD (pos x) 7 = some (nI x.1.1) ∧ getD (pos x) 8 = some (nI x.1.2) ∧ getD (pos x) 9 = some (.int x.2)) :
    eBin dAdd (eVar 1) (eCallB (dAlt dSum dSumT) (lCons (eComp (.t ((.n 7) :: ((.n 8) :: ((.n 9) :: [])))) (itS (eVar 2)) (bOf (eBin dEq (eBin dIx (eVar 6) (eVar 7)) (eVar 8))) (eVar 9) [7, 8, 9]) lNil)) ρ = M.pure (.int (base + sm ws bs b)) := by
  refine bin_ok (x := .int base) (y := .int (sm ws bs b)) (var_ok e1) (callB_ok (ds := [.list (((bs.filter fun x => works ws x.1 b).map (·.2)).map .int)]) (one_ok ?_) (sum_int _)) rfl
  rw [List.map_map]
  refine comp_ok (ds := bs.map encB) (seqS_tup (var_ok e2)) (comp_go encB (fun x => works ws x.1 b) (fun x => .int x.2) pos bs fun x hx => ?_) (by rw [sizeLine_eq, List.length_map]; exact Nat.le_trans (List.length_filter_le _ _) hl)
  obtain ⟨h1, h2, h3, h4, h5⟩ := hp x
  refine ⟨h1, of_ok (bin_ok (x := nI (val (ws.getD x.1.1 (2, 1)) b)) (y := nI x.1.2) (bin_ok (var_ok h2) (var_ok h3) (row_ix (hb x hx))) (var_ok h4) ?_), fun _ => var_ok h5⟩
  rw [eq_nat]; rfl
abbrev EL0 (ws : List W) (base : Int) (bs : List Bd) (n : Nat) (acc : List Int) (a5 a6 : Option SV) : En := [V (encT ws), V (.int base), V (encBs bs), V (nI n), some (.own (acc.map .int)), a5, a6, none, none, none]
abbrev lenT (ws : List W) (base : Int) (bs : List Bd) (n : Nat) : List Int := (List.range n).map fun b => base + sm ws bs b
theorem len_loop {f : List D → M D} {ws : List W} (hf : ∀ b, f [encT ws, nI b] = M.pure (encP (vals ws b))) {base : Int} {bs : List Bd} (hb : ∀ x ∈ bs, x.1.1 < ws.length) (hl : bs.length ≤ 16777216) {n : Nat} (hn : n ≤ 100000) :
    sFor (.n 5) (itR1 (eVar 3)) [5, 6] (sSeq (sSet 6 (eCall f (lCons (eVar 0) (lCons (eVar 5) lNil)))) (sApp 4 (eBin dAdd (eVar 1) (eCallB (dAlt dSum dSumT) (lCons (eComp (.t ((.n 7) :: ((.n 8) :: ((.n 9) :: [])))) (itS (eVar 2)) (bOf (eBin dEq (eBin dIx (eVar 6) (eVar 7)) (eVar 8))) (eVar 9) [7, 8, 9]) lNil))))) (EL0 ws base bs n [] none none) = M.pure (.nx (EL0 ws base bs n (lenT ws base bs n) none none)) := by
  refine (for_ok (r1_ok (j := n) rfl (by omega))).trans ?_
  refine (for_fold (fun i : Nat => PyData.int (i : Nat)) (fun acc : List Int => EL0 ws base bs n acc none none) (fun acc b => acc ++ [base + sm ws bs b]) (fun r acc => acc.length + r.length ≤ n) (List.range n) [] _ (fun b r acc hi => ?_) (by rw [List.length_range]; simp) rfl).trans ?_
  · rw [List.length_cons] at hi
    refine ⟨EL0 ws base bs n acc (V (nI b)) none, EL0 ws base bs n (acc ++ [base + sm ws bs b]) (V (nI b)) (V (encP (vals ws b))), rfl, ?_, rfl, by rw [List.length_append]; simp; omega⟩
    refine (seq_nx (ρ' := EL0 ws base bs n acc (V (nI b)) (V (encP (vals ws b)))) ((set_ok ((call_ok (ds := [encT ws, nI b]) rfl).trans (hf b)) (by show 6 < 10; omega)).trans rfl)).trans ?_
    refine (app_ok (ds := acc.map .int) rfl (sum_ev hb hl (b := b) (fun x => [V (encT ws), V (.int base), V (encBs bs), V (nI n), some (.own (acc.map .int)), V (nI b), V (encP (vals ws b)), V (nI x.1.1), V (nI x.1.2), V (.int x.2)]) rfl rfl fun x => ⟨rfl, rfl, rfl, rfl, rfl⟩) (by rw [sizeLine_eq, List.length_map]; omega)).trans ?_
    show M.pure (Fl.nx (setO _ 4 (acc.map .int ++ [.int (base + sm ws bs b)]))) = _
    have : acc.map PyData.int ++ [.int (base + sm ws bs b)] = (acc ++ [base + sm ws bs b]).map .int := by rw [List.map_append]; rfl
    rw [this]; rfl
  · have go : ∀ (l : List Nat) (acc : List Int), l.foldl (fun acc b => acc ++ [base + sm ws bs b]) acc = acc ++ l.map fun b => base + sm ws bs b := fun l => by
      induction l with
      | nil => intro acc; simp
      | cons x l ih => intro acc; rw [List.foldl_cons, ih, List.map_cons, List.append_assoc]; rfl
    rw [go, List.nil_append]
theorem law_len_eq {ws : List W} (h : Tr ws) {base : Int} {bs : List Bd} (hb : ∀ x ∈ bs, x.1.1 < ws.length) (hl : bs.length ≤ 16777216) {n : Nat} (hn : n ≤ 100000) : m__law_lengths [encT ws, .int base, encBs bs, nI n] = M.pure (.list ((lenT ws base bs n).map .int)) := by
  refine mkF_rt ?_
  refine (seq_nx (ρ' := EL0 ws base bs n [] none none) ((own_ok (by show 4 < 10; omega)).trans rfl)).trans ?_
  refine (seq_nx (len_loop (law_places_eq h) hb hl hn)).trans ?_
  exact ret_ok (e := eVar 4) (d := .list ((lenT ws base bs n).map .int)) (ρ := [V (encT ws), V (.int base), V (encBs bs), V (nI n), V (.list ((lenT ws base bs n).map .int)), none, none, none, none, none]) rfl
end Lay.K02

set_option Elab.async false
set_option linter.all false
set_option maxRecDepth 100000
set_option maxHeartbeats 2000000
/-! k02: bends; lengths -/
namespace Lay.K02
open PySem PySem.Spec PyProof.Rows L2 Lay Lay.K01

def encK (k : K) : D := .tuple [nI k.1, nI k.2]
def klt (a b : K) : Prop := a.1 < b.1 ∨ a.1 = b.1 ∧ a.2 < b.2
structure BOk (ws : List W) (bs : List Bd) : Prop where
  one : ∀ x ∈ bs, x.1.1 < ws.length ∧ x.1.2 < (ws.getD x.1.1 (2, 1)).1 ∧ x.2 ≠ 0 ∧ -3 ≤ x.2 ∧ x.2 ≤ 3
  len : bs.length ≤ 2
  inc : bs.Pairwise fun x y => klt x.1 y.1
theorem sl2 {ρ : En} {e : EX} {x : Bd} (h : e ρ = M.pure (encB x)) : eSl e none (some (eC (.int 2))) ρ = M.pure (encK x.1) := by
  unfold eSl
  rw [h]
  rfl
theorem lt_int {a b : Int} : dLt (.int a) (.int b) = some (.bool (decide (a < b))) := rfl
theorem le_int {a b : Int} : dLe (.int a) (.int b) = some (.bool (decide (a ≤ b))) := rfl
theorem gt_int {a b : Int} : dGt (.int a) (.int b) = some (.bool (decide (b < a))) := rfl
theorem lt_nat {a b : Nat} : dLt (nI a) (nI b) = some (.bool (decide (a < b))) := by
  rw [lt_int, decide_eq_decide.mpr (show ((a : Int) < b) ↔ a < b by omega)]
theorem gt_nat {a b : Nat} : dGt (nI a) (nI b) = some (.bool (decide (b < a))) := by
  rw [gt_int, decide_eq_decide.mpr (show ((b : Int) < a) ↔ b < a by omega)]
theorem wheel_ix {ws : List W} {i : Nat} (hi : i < ws.length) : dIx (encT ws) (nI i) = some (encW (ws.getD i (2, 1))) :=
  ixD_tup (by rw [List.getElem?_map, List.getD_eq_getElem?_getD, List.getElem?_eq_getElem hi]; rfl)
theorem is_bend_ok {ws : List W} {x : Bd} (h1 : x.1.1 < ws.length) (h2 : x.1.2 < (ws.getD x.1.1 (2, 1)).1) (h3 : x.2 ≠ 0) (h4 : -3 ≤ x.2) (h5 : x.2 ≤ 3) : m_is_bend [encT ws, encB x] = M.pure (.bool true) := by
  refine mkF_rt ?_
  refine (seq_nx (ρ' := [V (encT ws), V (encB x), none]) ((if_f (or_f rfl (or_f rfl (not_ok (x := true) (of_ok (all_ok rfl rfl)))))).trans rfl)).trans ?_
  refine ret_ok (eand_ok (x := true) (y := true) ?_ fun _ => eand_ok (x := true) (y := true) ?_ fun _ => ?_)
  · refine chain_ok (x := .int 0) (y := nI x.1.1) (z := nI ws.length) (p := true) (q := true) rfl rfl ?_ (len_T rfl) ?_
    · rw [le_int, decide_eq_true (by omega)]
    · rw [lt_nat, decide_eq_true h1]
  · refine chain_ok (x := .int 0) (y := nI x.1.2) (z := nI (ws.getD x.1.1 (2, 1)).1) (p := true) (q := true) rfl rfl ?_ ?_ ?_
    · rw [le_int, decide_eq_true (by omega)]
    · exact bin_ok (x := encW (ws.getD x.1.1 (2, 1))) (y := .int 0) (bin_ok (x := encT ws) (y := nI x.1.1) rfl rfl (wheel_ix h1)) rfl rfl
    · rw [lt_nat, decide_eq_true h2]
  · refine chain_ok (x := .int 0) (y := .int (if x.2 < 0 then -x.2 else x.2)) (z := .int 2000000) (p := true) (q := true) rfl (callB_ok (ds := [.int x.2]) rfl rfl) ?_ rfl ?_
    · rw [lt_int, decide_eq_true (by split <;> omega)]
    · rw [le_int, decide_eq_true (by split <;> omega)]
theorem ltK {a b : K} : dLtA (encK a) (encK b) = some (.bool (decide (a.1 < b.1 ∨ a.1 = b.1 ∧ a.2 < b.2))) := by
  have h : PySem.W.alike (encK a) (encK b) = true ∧ isNone (encK a) = false ∧ PyData.depth (encK a) ≤ 60 := ⟨rfl, rfl, by show 1 ≤ 60; omega⟩
  unfold dLtA
  rw [if_pos h]
  show some (PyData.bool (PySem.W.dataLt (.tuple [.int (a.1 : Nat), .int (a.2 : Nat)]) (.tuple [.int (b.1 : Nat), .int (b.2 : Nat)]))) = _
  rw [PySem.W.dataLt_ii, decide_eq_decide.mpr (show ((a.1 : Int) < b.1 ∨ (a.1 : Int) = b.1 ∧ (a.2 : Int) < b.2) ↔ (a.1 < b.1 ∨ a.1 = b.1 ∧ a.2 < b.2) by omega)]
theorem bend_ix {bs : List Bd} {i : Nat} (hi : i < bs.length) : dIx (encBs bs) (nI i) = some (encB bs[i]) :=
  ixD_tup (by rw [List.getElem?_map, List.getElem?_eq_getElem hi]; rfl)
theorem are_bends_ok {ws : List W} {bs : List Bd} (h : BOk ws bs) : m_are_bends [encT ws, encBs bs] = M.pure (.bool true) := by
  have hl := h.len
  refine mkF_rt ?_
  have s1 : s_are_bends_1 ([encT ws, encBs bs].map (fun d => some (.v d)) ++ List.replicate (4 - 2) none) = M.pure (.nx [V (encT ws), V (encBs bs), none, none]) := by
    refine (if_f (or_f rfl (or_f (of_ok (bin_ok (x := nI bs.length) (y := nI 6) (len_T rfl) rfl (by rw [gt_nat, decide_eq_false (by omega)]))) (not_ok (x := true) (of_ok ?_))))).trans rfl
    have e : bs.all (fun _ => true) = true := List.all_eq_true.mpr fun _ _ => rfl
    rw [← e]
    refine all_ok rfl (all_go encB (fun _ => true) (fun c => [V (encT ws), V (encB c)]) bs fun c hc => ⟨rfl, ?_⟩)
    obtain ⟨h1, h2, h3, h4, h5⟩ := h.one c hc
    exact (call_ok (ds := [encT ws, encB c]) rfl).trans (is_bend_ok h1 h2 h3 h4 h5)
  refine (seq_nx s1).trans ?_
  refine ret_ok (d := .bool true) ?_
  have e : (List.range (bs.length - 1)).all (fun _ => true) = true := List.all_eq_true.mpr fun _ _ => rfl
  rw [← e]
  refine all_ok (ds := (List.range (bs.length - 1)).map fun i => .int (1 + (i : Nat))) ?_ (all_go (fun i : Nat => PyData.int (1 + (i : Nat))) (fun _ => true) (fun i => [V (encBs bs), V (.int (1 + (i : Nat)))]) _ fun i hi => ⟨rfl, ?_⟩)
  · unfold itR2
    show M.bind (M.pure (PyData.int 1)) _ = _
    rw [M.pure_bind, len_T (ws := bs) (f := encB) rfl, M.pure_bind]
    dsimp only
    rw [if_pos (by rw [inR_nat (j := bs.length) (by omega)]; rfl)]
    unfold rngL
    rw [show ((bs.length : Int) - 1).toNat = bs.length - 1 by omega]
  · have hi := List.mem_range.mp hi
    have e1 : (1 + (i : Int)) = ((i + 1 : Nat) : Int) := by omega
    refine bin_ok (x := encK (bs[i]).1) (y := encK (bs[i + 1]).1) (sl2 ?_) (sl2 ?_) ?_
    · refine bin_ok (x := encBs bs) (y := nI i) rfl (bin_ok (x := .int (1 + (i : Nat))) (y := .int 1) rfl rfl ?_) (bend_ix (by omega))
      show some (PyData.int (1 + (i : Int) - 1)) = _
      rw [show (1 + (i : Int) - 1) = (i : Int) by omega]
    · refine bin_ok (x := encBs bs) (y := nI (i + 1)) rfl ?_ (bend_ix (by omega))
      show M.pure (PyData.int (1 + (i : Int))) = _
      rw [e1]
    · have k : (bs[i]).1.1 < (bs[i + 1]).1.1 ∨ (bs[i]).1.1 = (bs[i + 1]).1.1 ∧ (bs[i]).1.2 < (bs[i + 1]).1.2 := List.pairwise_iff_getElem.mp h.inc i (i + 1) (by omega) (by omega) (by omega)
      rw [ltK, decide_eq_true k]
theorem lengths_eq {ws : List W} (h : Tr ws) {base : Int} {bs : List Bd} (hb : BOk ws bs) (b0 : 0 ≤ base) (b1 : base ≤ 1000000) {n : Nat} (hn : n ≤ 120) : m_lengths [encT ws, .int base, encBs bs, nI n] = M.pure (.tuple ((lenT ws base bs n).map .int)) := by
  refine mkF_rt ?_
  refine (seq_nx (need_e h rfl)).trans ?_
  refine (seq_nx (ρ' := [V (encT ws), V (.int base), V (encBs bs), V (nI n), none, none, none, none, none, none]) (exp_ok ((call_ok (ds := [.int base, .str "base", .int 0, .int 1000000]) rfl).trans (need_ok _ b0 b1)))).trans ?_
  refine (seq_nx (ρ' := [V (encT ws), V (.int base), V (encBs bs), V (nI n), none, none, none, none, none, none]) ((if_f (not_ok (x := true) (of_ok ((call_ok (ds := [encT ws, encBs bs]) rfl).trans (are_bends_ok hb))))).trans rfl)).trans ?_
  refine (seq_nx (ρ' := [V (encT ws), V (.int base), V (encBs bs), V (nI n), none, none, none, none, none, none]) (exp_ok ((call_ok (ds := [nI n, .str "many", .int 0, .int 120]) rfl).trans (need_ok _ (by omega) (by omega))))).trans ?_
  refine (seq_nx (ρ' := EL0 ws base bs n [] none none) ((own_ok (by show 4 < 10; omega)).trans rfl)).trans ?_
  refine (seq_nx (len_loop (places_at_eq h) (fun x hx => (hb.one x hx).1) (by have := hb.len; omega) (by omega))).trans ?_
  exact ret_ok (e := eCallB dTuple (lCons (eVar 4) lNil)) (d := .tuple ((lenT ws base bs n).map .int)) (ρ := [V (encT ws), V (.int base), V (encBs bs), V (nI n), V (.list ((lenT ws base bs n).map .int)), none, none, none, none, none]) rfl
end Lay.K02

set_option Elab.async false
set_option linter.all false
set_option maxRecDepth 100000
set_option maxHeartbeats 2000000
/-! k02: the teeth that work -/
namespace Lay.K02
open PySem PySem.Spec PyProof.Rows L2 Lay Lay.K01

/-! ### sorted -/
theorem sortA_perm (ds : List D) : (sortA ds).Perm ds := by
  unfold sortA
  split
  · rename_i h
    exact h.choose_spec.perm
  · exact .refl _
theorem perm_map_inv {α β : Type} {f : α → β} : ∀ {out : List β} {l : List α}, out.Perm (l.map f) → ∃ l' : List α, l'.Perm l ∧ out = l'.map f
  | [], l, h => by
    have : l.map f = [] := List.nil_perm.mp h
    rw [List.map_eq_nil_iff] at this
    subst this
    exact ⟨[], .nil, rfl⟩
  | x :: r, l, h => by
    have : x ∈ l.map f := h.mem_iff.mp List.mem_cons_self
    obtain ⟨a, ha, e⟩ := List.mem_map.mp this
    obtain ⟨s, t, rfl⟩ := List.append_of_mem ha
    subst e
    have h2 : (f a :: r).Perm (f a :: (s ++ t).map f) := h.trans (by rw [List.map_append, List.map_cons, List.map_append]; exact List.perm_middle)
    obtain ⟨l', p, e⟩ := perm_map_inv h2.cons_inv
    refine ⟨a :: l', (p.cons a).trans List.perm_middle.symm, ?_⟩
    rw [e]; rfl
theorem depthAll_le {m : Nat} : ∀ {ds : List D}, (∀ d ∈ ds, PyData.depth d ≤ m) → PyData.depthAll ds ≤ m
  | [], _ => Nat.zero_le _
  | d :: ds, h => Nat.max_le.mpr ⟨h d List.mem_cons_self, depthAll_le fun x hx => h x (List.mem_cons_of_mem _ hx)⟩
theorem srtOk_keys (l : List K) : SrtOk (l.map encK) := by
  refine ⟨fun d hd => ?_, fun _ => ⟨fun d hd e he => ?_, .inl fun d hd => ?_⟩, depthAll_le fun d hd => ?_⟩
  · obtain ⟨k, _, rfl⟩ := List.mem_map.mp hd; exact ⟨_, rfl⟩
  · obtain ⟨k, _, rfl⟩ := List.mem_map.mp hd
    obtain ⟨k', _, rfl⟩ := List.mem_map.mp he
    rfl
  · obtain ⟨k, _, rfl⟩ := List.mem_map.mp hd; exact ⟨_, _, rfl⟩
  · obtain ⟨k, _, rfl⟩ := List.mem_map.mp hd; show 1 ≤ 60; omega
theorem teeth_ex (l : List K) : ∃ t : List K, t.Perm l ∧ sortA (l.map encK) = t.map encK := perm_map_inv (sortA_perm (l.map encK))
noncomputable def srtK (l : List K) : List K := (teeth_ex l).choose
theorem srtK_perm (l : List K) : (srtK l).Perm l := (teeth_ex l).choose_spec.1
theorem srtK_eq (l : List K) : sortA (l.map encK) = (srtK l).map encK := (teeth_ex l).choose_spec.2
noncomputable def teeth (ws : List W) (n : Nat) : List K := srtK (keys ws n)
theorem mem_teeth {ws : List W} {n : Nat} {k : K} : k ∈ teeth ws n ↔ k.1 < ws.length ∧ ∃ b, b < n ∧ val (ws.getD k.1 (2, 1)) b = k.2 := (srtK_perm _).mem_iff.trans ((keys_spec ws n).2 k)
theorem nodup_teeth (ws : List W) (n : Nat) : (teeth ws n).Nodup := (srtK_perm _).nodup_iff.mpr (keys_spec ws n).1
theorem teeth_len {ws : List W} (h : Tr ws) (n : Nat) : (teeth ws n).length ≤ 2 * n := by
  have h1 := (srtK_perm (keys ws n)).length_eq
  have h2 := keys_len ws n
  have h3 := h.len
  have : n * ws.length ≤ n * 2 := Nat.mul_le_mul_left _ h3
  unfold teeth
  omega
/-! ### dicts -/
def kI (k : K) : List Int := [(k.1 : Int), (k.2 : Int)]
theorem kI_inj {a b : K} (h : kI a = kI b) : a = b := by
  unfold kI at h
  injection h with h1 h2
  injection h2 with h2 _
  exact Prod.ext (by omega) (by omega)
theorem tupN_K (k : K) : tupN (encK k) = some (kI k) := rfl
theorem tupI_K (k : K) : tupI (kI k) = encK k := rfl
theorem valT_map {g : K → D} {k : K} : ∀ {l : List K}, k ∈ l → valT (l.map fun k => (kI k, g k)) (kI k) = some (g k)
  | [], h => by cases h
  | x :: l, h => by
    rw [List.map_cons]
    unfold valT
    by_cases e : x = k
    · subst e; exact if_pos rfl
    · rw [if_neg (fun z => e (kI_inj z))]
      rcases List.mem_cons.mp h with h | h
      · exact absurd h.symm e
      · exact valT_map h
theorem putT_map {d : D} {k : K} : ∀ {l : List K}, putT (l.map fun k => (kI k, d)) (kI k) d = (addK l k).map fun k => (kI k, d)
  | [] => rfl
  | x :: l => by
    have ih := putT_map (d := d) (k := k) (l := l)
    rw [List.map_cons]
    unfold putT
    by_cases e : x = k
    · subst e
      rw [if_pos rfl]
      unfold addK
      rw [if_pos List.mem_cons_self]; rfl
    · rw [if_neg (fun z => e (kI_inj z)), ih]
      unfold addK
      by_cases h : k ∈ l
      · rw [if_pos h, if_pos (List.mem_cons_of_mem _ h)]; rfl
      · rw [if_neg h, if_neg (fun z => (List.mem_cons.mp z).elim (fun y => e y.symm) h)]; rfl
abbrev rowsL (l : List K) (f : K → List Nat) : List (List Int × List D) := l.map fun k => (kI k, (f k).map nI)
theorem addT_map {b : Nat} {k : K} {f g : K → List Nat} : ∀ {l : List K}, l.Nodup → (∀ x ∈ l, x ≠ k → g x = f x) → (k ∈ l → g k = f k ++ [b]) → (k ∉ l → g k = [b]) → addT (rowsL l f) (kI k) (nI b) = rowsL (addK l k) g
  | [], _, _, _, h => by
    show [(kI k, [nI b])] = [(kI k, (g k).map nI)]
    rw [h (fun z => by cases z)]; rfl
  | x :: l, nd, h1, h2, h3 => by
    rw [List.nodup_cons] at nd
    show addT ((kI x, (f x).map nI) :: rowsL l f) _ _ = _
    unfold addT
    by_cases e : x = k
    · subst e
      rw [if_pos rfl]
      unfold addK
      rw [if_pos List.mem_cons_self]
      show _ = (kI x, (g x).map nI) :: rowsL l g
      rw [h2 List.mem_cons_self, List.map_append]
      congr 1
      refine List.map_congr_left fun y hy => ?_
      rw [h1 y (List.mem_cons_of_mem _ hy) fun z => nd.1 (by rw [← z]; exact hy)]
    · rw [if_neg (fun z => e (kI_inj z))]
      have ih := addT_map (b := b) (k := k) (f := f) (g := g) nd.2 (fun y hy => h1 y (List.mem_cons_of_mem _ hy)) (fun z => h2 (List.mem_cons_of_mem _ z)) (fun z => h3 fun y => (List.mem_cons.mp y).elim (fun w => e w.symm) z)
      rw [ih, show f x = g x from (h1 x List.mem_cons_self e).symm]
      unfold addK
      by_cases h : k ∈ l
      · rw [if_pos h, if_pos (List.mem_cons_of_mem _ h)]; rfl
      · rw [if_neg h, if_neg (fun z => (List.mem_cons.mp z).elim (fun y => e y.symm) h)]; rfl
theorem valL_len {m : Nat} {k : List Int} : ∀ {kvs : List (List Int × List D)}, (∀ p ∈ kvs, p.2.length ≤ m) → ((valL kvs k).getD []).length ≤ m
  | [], _ => Nat.zero_le _
  | p :: r, h => by
    unfold valL
    split
    · exact h p List.mem_cons_self
    · exact valL_len fun q hq => h q (List.mem_cons_of_mem _ hq)
/-! ### working -/
theorem foldl_count {α : Type} : ∀ (l : List α) (c : Nat), l.foldl (fun c _ => c + 1) c = c + l.length
  | [], c => rfl
  | x :: l, c => by rw [List.foldl_cons, foldl_count l, List.length_cons]; omega
theorem range_next {n c x : Nat} {r : List Nat} (h : x :: r = (List.range n).drop c) : x = c ∧ r = (List.range n).drop (c + 1) ∧ c < n := by
  have hc : c < n := by
    rcases Nat.lt_or_ge c n with h1 | h1
    · exact h1
    · rw [List.drop_eq_nil_of_le (by rw [List.length_range]; exact h1)] at h; cases h
  rw [List.drop_eq_getElem_cons (by rw [List.length_range]; exact hc), List.getElem_range] at h
  injection h with h1 h2
  exact ⟨h1, h2, hc⟩
abbrev part (ws : List W) (c w : Nat) : List K := (List.range w).foldl (stepW ws c) (keys ws c)
theorem part_succ (ws : List W) (c w : Nat) : part ws c (w + 1) = addK (part ws c w) (w, val (ws.getD w (2, 1)) c) := by
  show (List.range (w + 1)).foldl (stepW ws c) (keys ws c) = _
  rw [List.range_succ, List.foldl_append]; rfl
theorem part_all (ws : List W) (c : Nat) : part ws c ws.length = keys ws (c + 1) := by
  show (List.range ws.length).foldl (stepW ws c) (keys ws c) = _
  unfold keys
  rw [List.range_succ, List.foldl_append]; rfl
theorem part_nodup (ws : List W) (c w : Nat) : (part ws c w).Nodup := (foldW ws c _ (keys_spec ws c).1 w).1
theorem part_len {ws : List W} (h : Tr ws) (c w : Nat) (hw : w ≤ ws.length) : (part ws c w).length ≤ 2 * c + 2 := by
  have h1 := foldW_len ws c (keys ws c) w
  have h2 := keys_len ws c
  have h3 := h.len
  have : c * ws.length ≤ c * 2 := Nat.mul_le_mul_left _ h3
  show ((List.range w).foldl (stepW ws c) (keys ws c)).length ≤ _
  omega
theorem beats_len {ws : List W} {k : K} {n : Nat} : (beats ws k n).length ≤ n := by
  unfold beats
  exact Nat.le_trans (List.length_filter_le _ _) (by rw [List.length_range]; exact Nat.le_refl _)
theorem sofar_len {ws : List W} {c w : Nat} {k : K} : (sofar ws c w k).length ≤ c + 1 := by
  unfold sofar
  rw [List.length_append]
  have := beats_len (ws := ws) (k := k) (n := c)
  split
  · rw [List.length_singleton]; omega
  · rw [List.length_nil]; omega
theorem sofar_new {ws : List W} {c w : Nat} (hw : w < ws.length) (h : (w, val (ws.getD w (2, 1)) c) ∉ part ws c w) : sofar ws c (w + 1) (w, val (ws.getD w (2, 1)) c) = [c] := by
  rw [sofar_same]
  have : beats ws (w, val (ws.getD w (2, 1)) c) c = [] := List.filter_eq_nil_iff.mpr fun b hb z => h (by
    refine ((foldW ws c _ (keys_spec ws c).1 w).2 _).mpr (.inl (((keys_spec ws c).2 _).mpr ⟨hw, b, List.mem_range.mp hb, ?_⟩))
    unfold works at z
    exact of_decide_eq_true z)
  unfold sofar
  rw [this, if_neg (fun z => absurd z.1 (Nat.lt_irrefl _))]; rfl
abbrev EW (ws : List W) (n : Nat) (kvs : List (List Int × List D)) (a3 a4 a5 : Option SV) : En := [V (encT ws), V (nI n), some (.dL kvs), a3, a4, a5, none]
theorem key_ev {ws : List W} {c w : Nat} (hw : w < ws.length) {ρ : En} {i j : Nat} (e1 : getD ρ i = some (encP (vals ws c))) (e2 : getD ρ j = some (nI w)) : eTup (lCons (eVar j) (lCons (eBin dIx (eVar i) (eVar j)) lNil)) ρ = M.pure (encK (w, val (ws.getD w (2, 1)) c)) :=
  tup_ok (xs := [nI w, nI (val (ws.getD w (2, 1)) c)]) (cons_ok (var_ok e2) (one_ok (bin_ok (var_ok e1) (var_ok e2) (row_ix hw)))) (by show 2 ≤ 16777216; omega)
theorem y_working_ok {ws : List W} (h : Tr ws) {n c w : Nat} (hw : w < ws.length) (hc : c < n) (hn : n ≤ 1000) : y_working_1 (EW ws n (rowsL (part ws c w) (sofar ws c w)) (V (nI c)) (V (encP (vals ws c))) (V (nI w))) = M.pure (.nx (EW ws n (rowsL (part ws c (w + 1)) (sofar ws c (w + 1))) (V (nI c)) (V (encP (vals ws c))) (V (nI w)))) := by
  have pl := part_len h c w (by omega)
  have k1 := key_ev hw (c := c) (ρ := [V (encT ws), V (nI n), none, V (nI c), V (encP (vals ws c)), V (nI w), none]) (i := 4) (j := 5) rfl rfl
  unfold y_working_1 sSdApp
  show M.bind (eTup (lCons (eVar 5) (lCons (eBin dIx (eVar 4) (eVar 5)) lNil)) [V (encT ws), V (nI n), none, V (nI c), V (encP (vals ws c)), V (nI w), none]) _ = _
  rw [k1, M.pure_bind, tupN_K]
  dsimp only
  rw [if_pos ⟨by rw [sizeLine_eq, List.length_map]; omega, by
    refine Nat.lt_of_le_of_lt (valL_len (m := c + 1) fun p hp => ?_) (by rw [sizeLine_eq]; omega)
    obtain ⟨k, _, rfl⟩ := List.mem_map.mp hp
    rw [List.length_map]; exact sofar_len⟩]
  show M.bind (M.pure (nI c)) _ = _
  rw [M.pure_bind, addT_map (g := sofar ws c (w + 1)) (part_nodup ws c w) (fun x _ hx => sofar_other hx) (fun _ => sofar_same) (fun z => sofar_new hw z), ← part_succ]
  rfl
theorem working_eq {ws : List W} (h : Tr ws) {n : Nat} (hn : n ≤ 1000) : m_working [encT ws, nI n] = M.pure (.list ((teeth ws n).map fun k => .tuple [encK k, .list ((beats ws k n).map nI)])) := by
  have hl := h.len
  refine mkF_rt ?_
  refine (seq_nx (ρ' := EW ws n (rowsL (keys ws 0) fun k => beats ws k 0) none none none) rfl).trans ?_
  have s2 : s_working_2 (EW ws n (rowsL (keys ws 0) fun k => beats ws k 0) none none none) = M.pure (.nx (EW ws n (rowsL (keys ws n) fun k => beats ws k n) none none none)) := by
    unfold s_working_2
    refine (for_ok (r1_ok (j := n) rfl (by omega))).trans ?_
    refine (for_fold (b := y_working_2) (fun i : Nat => PyData.int (i : Nat)) (fun c : Nat => EW ws n (rowsL (keys ws c) fun k => beats ws k c) none none none) (fun c _ => c + 1) (fun r c => r = (List.range n).drop c) (List.range n) 0 _ (fun x r c hi => ?_) (by rw [List.drop_zero]) rfl).trans (by rw [foldl_count, List.length_range, Nat.zero_add])
    obtain ⟨rfl, er, hc⟩ := range_next hi
    refine ⟨EW ws n (rowsL (keys ws x) fun k => beats ws k x) (V (nI x)) none none, EW ws n (rowsL (keys ws (x + 1)) fun k => beats ws k (x + 1)) (V (nI x)) (V (encP (vals ws x))) none, rfl, ?_, rfl, er⟩
    unfold y_working_2
    refine (seq_nx (ρ' := EW ws n (rowsL (keys ws x) fun k => beats ws k x) (V (nI x)) (V (encP (vals ws x))) none) ((set_ok ((call_ok (ds := [encT ws, nI x]) rfl).trans (places_at_eq h x)) (by show 4 < 7; omega)).trans rfl)).trans ?_
    refine (for_ok (r1_ok (j := ws.length) (len_T rfl) (by omega))).trans ?_
    have e0 : (rowsL (keys ws x) fun k => beats ws k x) = rowsL (part ws x 0) (sofar ws x 0) := List.map_congr_left fun k _ => by rw [sofar_zero]
    have e1 : (rowsL (keys ws (x + 1)) fun k => beats ws k (x + 1)) = rowsL (part ws x ws.length) (sofar ws x ws.length) := by
      rw [part_all]
      refine List.map_congr_left fun k hk => ?_
      rw [sofar_all (((keys_spec ws (x + 1)).2 k).mp hk).1]
    rw [e0, e1]
    refine (for_fold (b := y_working_1) (fun i : Nat => PyData.int (i : Nat)) (fun w : Nat => EW ws n (rowsL (part ws x w) (sofar ws x w)) (V (nI x)) (V (encP (vals ws x))) none) (fun w _ => w + 1) (fun r w => r = (List.range ws.length).drop w) (List.range ws.length) 0 _ (fun y r w hi => ?_) (by rw [List.drop_zero]) rfl).trans (by rw [foldl_count, List.length_range, Nat.zero_add])
    obtain ⟨rfl, er, hw⟩ := range_next hi
    exact ⟨EW ws n (rowsL (part ws x y) (sofar ws x y)) (V (nI x)) (V (encP (vals ws x))) (V (nI y)), _, rfl, y_working_ok h hw hc hn, rfl, er⟩
  refine (seq_nx s2).trans ?_
  have fz : frzL 2 (EW ws n (rowsL (keys ws n) fun k => beats ws k n) none none none) = [V (encT ws), V (nI n), some (.dT ((keys ws n).map fun k => (kI k, .list ((beats ws k n).map nI)))), none, none, none, none] := by
    show [V (encT ws), V (nI n), some (SV.dT ((rowsL (keys ws n) fun k => beats ws k n).map fun p => (p.1, .list p.2))), none, none, none, none] = _
    rw [List.map_map]; rfl
  show sRet _ (frzL 2 _) = _
  rw [fz]
  have so : itS (eSortT 2) [V (encT ws), V (nI n), some (.dT ((keys ws n).map fun k => (kI k, .list ((beats ws k n).map nI)))), none, none, none, none] = M.pure ((teeth ws n).map encK) := by
    refine seqS_list ?_
    show M.lift (dSortA [.list (((keys ws n).map fun k => (kI k, PyData.list ((beats ws k n).map nI))).map fun p => tupI p.1)]) = _
    rw [List.map_map, show ((fun p : List Int × D => tupI p.1) ∘ fun k => (kI k, PyData.list ((beats ws k n).map nI))) = encK from rfl]
    unfold dSortA
    dsimp only
    rw [if_pos (srtOk_keys _), srtK_eq]; rfl
  refine ret_ok (comp_ok so ?_ (by rw [sizeLine_eq, List.length_map]; have := teeth_len h n; omega))
  have e := comp_go (ρ := [V (encT ws), V (nI n), some (.dT ((keys ws n).map fun k => (kI k, .list ((beats ws k n).map nI)))), none, none, none, none]) (tg := .n 6) (conds := bYes) (elt := eTup (lCons (eVar 6) (lCons (eTGet 2 (eVar 6)) lNil))) (vs := [6]) encK (fun _ => true) (fun k => .tuple [encK k, .list ((beats ws k n).map nI)]) (fun k => [V (encT ws), V (nI n), some (.dT ((keys ws n).map fun k => (kI k, .list ((beats ws k n).map nI)))), none, none, none, V (encK k)]) (teeth ws n) fun k hk => ⟨rfl, rfl, fun _ => by
    refine tup_ok (xs := [encK k, .list ((beats ws k n).map nI)]) (cons_ok rfl (one_ok ?_)) (by show 2 ≤ 16777216; omega)
    show M.lift ((tupN (encK k)).bind fun q => valT ((keys ws n).map fun k => (kI k, .list ((beats ws k n).map nI))) q) = _
    rw [tupN_K]
    show M.lift (valT _ (kI k)) = _
    rw [valT_map (g := fun k => .list ((beats ws k n).map nI)) ((srtK_perm _).mem_iff.mp hk)]; rfl⟩
  rw [List.filter_eq_self.mpr (fun _ _ => rfl)] at e
  exact e
end Lay.K02

set_option Elab.async false
set_option linter.all false
set_option maxRecDepth 100000
set_option maxHeartbeats 2000000
/-! k02: one tooth, two teeth -/
namespace Lay.K02
open PySem PySem.Spec PyProof.Rows L2 Lay Lay.K01

theorem any_nat (b : Nat) (A : List Nat) : ((A.map nI).any fun z => PyData.eqv z (nI b)) = decide (b ∈ A) := by
  have e : A.map nI = (A.map fun n : Nat => (n : Int)).map PyData.int := by rw [List.map_map]; rfl
  rw [e, any_int]
  refine decide_eq_decide.mpr ⟨fun h => ?_, fun h => List.mem_map.mpr ⟨b, h, rfl⟩⟩
  obtain ⟨c, hc, e⟩ := List.mem_map.mp h
  have : c = b := by omega
  rw [← this]; exact hc
theorem plain_nats {n : Nat} (A : List Nat) : plains n (A.map nI) = true := by
  have e : A.map nI = (A.map fun n : Nat => (n : Int)).map PyData.int := by rw [List.map_map]; rfl
  rw [e]; exact plain_ints _
theorem shaped_nats (b : Nat) (A : List Nat) : (SeqAt.shaped (nI b) && SeqAt.shaped (.list (A.map nI))) = true := by
  rw [shaped_plain (n := 0) (d := nI b) rfl (by omega), shaped_plain (n := 1) (d := .list (A.map nI)) (plain_nats A) (by omega)]; rfl
theorem in_list {b : Nat} {A : List Nat} : dIn (nI b) (.list (A.map nI)) = some (.bool (decide (b ∈ A))) := by
  show (if (SeqAt.shaped (nI b) && SeqAt.shaped (.list (A.map nI))) = true then _ else _) = _
  rw [if_pos (shaped_nats b A), any_nat]
theorem notIn_list {b : Nat} {A : List Nat} : dNotIn (nI b) (.list (A.map nI)) = some (.bool (!decide (b ∈ A))) := by
  show (if (SeqAt.shaped (nI b) && SeqAt.shaped (.list (A.map nI))) = true then _ else _) = _
  rw [if_pos (shaped_nats b A), any_nat]
theorem ne_int {a b : Int} : dNe (.int a) (.int b) = some (.bool (!decide (a = b))) := neD_true (n := 0) (m := 0) rfl rfl (by omega) (by omega) _ ⟨int_inj _ _, fun h => by rw [h]⟩
/-- turns that return None where p fails -/
theorem for_none {tg : Tg} {vs : List Nat} {b : ST} {n : Nat} (p : Nat → Bool) (ρ0 : En) (h : ∀ i, i < n → ∃ ρ1, bindT tg ρ0 (nI i) = some ρ1 ∧ ((p i = false ∧ b ρ1 = M.pure (.rt .none)) ∨ (p i = true ∧ ∃ ρ2, b ρ1 = M.pure (.nx ρ2) ∧ clr ρ2 vs = ρ0))) {ρ : En} (hρ : clr ρ vs = ρ0) :
    forL tg vs b ((List.range n).map fun i : Nat => PyData.int (i : Nat)) ρ = if (List.range n).all p = true then M.pure (.nx ρ0) else M.pure (.rt .none) := by
  refine (for_find (fun i : Nat => PyData.int (i : Nat)) (fun i => if p i = true then none else some .none) ρ0 (List.range n) (fun i hi => ?_) ρ hρ).trans ?_
  · obtain ⟨ρ1, h1, h2⟩ := h i (List.mem_range.mp hi)
    refine ⟨ρ1, h1, ?_⟩
    rcases h2 with ⟨e, hb⟩ | ⟨e, ρ2, hb, hc⟩
    · exact .inl ⟨.none, by rw [e]; rfl, hb⟩
    · exact .inr ⟨by rw [e]; rfl, ρ2, hb, hc⟩
  · have : ∀ l : List Nat, (l.findSome? fun i => if p i = true then none else some PyData.none) = if l.all p = true then none else some .none := fun l => by
      induction l with
      | nil => rfl
      | cons x l ih =>
        rw [List.findSome?_cons, List.all_cons]
        cases p x with
        | true => simpa using ih
        | false => rfl
    rw [this]
    cases (List.range n).all p <;> rfl
abbrev offI (off : Nat → Int) (n : Nat) : List D := (List.range n).map fun b => PyData.int (off b)
theorem off_ix {off : Nat → Int} {n b : Nat} (hb : b < n) : dIx (.list (offI off n)) (nI b) = some (.int (off b)) := ixD_list (by rw [List.getElem?_map, List.getElem?_range hb]; rfl)
theorem nat_ix {A : List Nat} {i : Nat} (h : i < A.length) : dIx (.list (A.map nI)) (nI i) = some (nI A[i]) := ixD_list (by rw [List.getElem?_map, List.getElem?_eq_getElem h]; rfl)
theorem head_ix {A : List Nat} (h : A ≠ []) {ρ : En} {e : EX} (he : e ρ = M.pure (.list (A.map nI))) : eBin dIx e (eC (.int 0)) ρ = M.pure (nI (A.headD 0)) := by
  cases A with
  | nil => exact absurd rfl h
  | cons a r => exact bin_ok (x := .list ((a :: r).map nI)) (y := nI 0) he rfl (nat_ix (A := a :: r) (i := 0) (by simp))
theorem headD_mem {A : List Nat} (h : A ≠ []) : A.headD 0 ∈ A := by
  cases A with
  | nil => exact absurd rfl h
  | cons a r => exact List.mem_cons_self
/-- x if the beat is in a list, else 0 -/
theorem if_in {A : List Nat} {b : Nat} {x : Int} {ρ : En} {e f g : EX} (h1 : e ρ = M.pure (nI b)) (h2 : f ρ = M.pure (.list (A.map nI))) (h3 : g ρ = M.pure (.int x)) : eIf (bOf (eBin dIn e f)) g (eC (.int 0)) ρ = M.pure (.int (if b ∈ A then x else 0)) := by
  have t := of_ok (bin_ok h1 h2 in_list)
  by_cases h : b ∈ A
  · rw [decide_eq_true h] at t
    rw [ife_t t, if_pos h]; exact h3
  · rw [decide_eq_false h] at t
    rw [ife_f t, if_neg h]; rfl
def encO : Option Int → D
  | none => .none
  | some e => .int e
theorem single_eq {A : List Nat} {off : Nat → Int} {n : Nat} (hA : A ≠ []) (hn : ∀ b ∈ A, b < n) (hb : n ≤ 1000) : m_single [.list (A.map nI), .list (offI off n)] = M.pure (encO (sing A off n)) := by
  refine mkF_rt ?_
  have t0 : eBin dIx (eVar 1) (eBin dIx (eVar 0) (eC (.int 0))) [V (.list (A.map nI)), V (.list (offI off n)), none, none] = M.pure (.int (off (A.headD 0))) :=
    bin_ok (x := .list (offI off n)) (y := nI (A.headD 0)) rfl (head_ix hA rfl) (off_ix (hn _ (headD_mem hA)))
  refine (seq_nx (ρ' := [V (.list (A.map nI)), V (.list (offI off n)), V (.int (off (A.headD 0))), none]) ((set_ok t0 (by show 2 < 4; omega)).trans rfl)).trans ?_
  have t1 : bOf (eBin dEq (eVar 2) (eC (.int 0))) [V (.list (A.map nI)), V (.list (offI off n)), V (.int (off (A.headD 0))), none] = M.pure (decide (off (A.headD 0) = 0)) := of_ok (bin_ok (x := .int (off (A.headD 0))) (y := .int 0) rfl rfl eq_int)
  unfold sing
  by_cases h0 : off (A.headD 0) = 0
  · rw [decide_eq_true h0] at t1
    rw [if_pos h0]
    exact seq_rt ((if_t t1).trans rfl)
  · rw [decide_eq_false h0] at t1
    rw [if_neg h0]
    refine (seq_nx ((if_f t1).trans rfl)).trans ?_
    have lp : s_single_3 [V (.list (A.map nI)), V (.list (offI off n)), V (.int (off (A.headD 0))), none] = if ((List.range n).all fun b => decide (off b = if b ∈ A then off (A.headD 0) else 0)) = true then M.pure (.nx [V (.list (A.map nI)), V (.list (offI off n)), V (.int (off (A.headD 0))), none]) else M.pure (.rt .none) := by
      unfold s_single_3
      refine (for_ok (r1_ok (j := n) (by refine callB_ok (ds := [.list (offI off n)]) rfl ?_; show some (PyData.int (((offI off n).length : Nat) : Int)) = _; rw [List.length_map, List.length_range]) (by omega))).trans ?_
      refine for_none (b := y_single_1) (fun b => decide (off b = if b ∈ A then off (A.headD 0) else 0)) _ (fun b hb => ⟨[V (.list (A.map nI)), V (.list (offI off n)), V (.int (off (A.headD 0))), V (nI b)], rfl, ?_⟩) rfl
      have t2 : bOf (eBin dNe (eBin dIx (eVar 1) (eVar 3)) (eIf (bOf (eBin dIn (eVar 3) (eVar 0))) (eVar 2) (eC (.int 0)))) [V (.list (A.map nI)), V (.list (offI off n)), V (.int (off (A.headD 0))), V (nI b)] = M.pure (!decide (off b = if b ∈ A then off (A.headD 0) else 0)) :=
        of_ok (bin_ok (x := .int (off b)) (y := .int (if b ∈ A then off (A.headD 0) else 0)) (bin_ok (x := .list (offI off n)) (y := nI b) rfl rfl (off_ix hb)) (if_in (A := A) (b := b) rfl rfl rfl) ne_int)
      unfold y_single_1
      cases hq : decide (off b = if b ∈ A then off (A.headD 0) else 0) with
      | false => rw [hq] at t2; exact .inl ⟨rfl, (if_t t2).trans rfl⟩
      | true => rw [hq] at t2; exact .inr ⟨rfl, _, (if_f t2).trans rfl, rfl⟩
    by_cases h1 : ((List.range n).all fun b => decide (off b = if b ∈ A then off (A.headD 0) else 0)) = true
    · rw [if_pos h1] at lp ⊢
      exact (seq_nx lp).trans rfl
    · rw [if_neg h1] at lp ⊢
      exact seq_rt lp
/-! ### two -/
def encO2 : Option (Int × Int) → D
  | none => .none
  | some x => .tuple [.int x.1, .int x.2]
abbrev ED (A B : List Nat) (off : Nat → Int) (n : Nat) (a3 a4 a5 a6 a7 : Option SV) : En := [V (.list (A.map nI)), V (.list (B.map nI)), V (.list (offI off n)), a3, a4, a5, a6, a7]
theorem chk_tail {A B : List Nat} {off : Nat → Int} {n : Nat} (hb : n ≤ 1000) {a3 a4 : Option SV} {f s : Int} : (sSeq s_double_4 (sSeq s_double_5 s_double_6)) (ED A B off n a3 a4 (V (.int f)) (V (.int s)) none) = M.pure (.rt (encO2 (chk A B off n f s))) := by
  have t1 : bOr (bOf (eBin dEq (eVar 5) (eC (.int 0)))) (bOf (eBin dEq (eVar 6) (eC (.int 0)))) (ED A B off n a3 a4 (V (.int f)) (V (.int s)) none) = M.pure (decide (f = 0) || decide (s = 0)) :=
    or_ok (of_ok (bin_ok (x := .int f) (y := .int 0) rfl rfl eq_int)) fun _ => of_ok (bin_ok (x := .int s) (y := .int 0) rfl rfl eq_int)
  unfold chk
  by_cases h0 : f = 0 ∨ s = 0
  · rw [if_pos h0]
    have : (decide (f = 0) || decide (s = 0)) = true := by simpa using h0
    rw [this] at t1
    exact seq_rt ((if_t t1).trans rfl)
  · rw [if_neg h0]
    have : (decide (f = 0) || decide (s = 0)) = false := by
      rw [← Bool.not_eq_true]; simpa using h0
    rw [this] at t1
    refine (seq_nx ((if_f t1).trans rfl)).trans ?_
    have lp : s_double_5 (ED A B off n a3 a4 (V (.int f)) (V (.int s)) none) = if ((List.range n).all fun b => decide (off b = bothE A B f s b)) = true then M.pure (.nx (ED A B off n a3 a4 (V (.int f)) (V (.int s)) none)) else M.pure (.rt .none) := by
      unfold s_double_5
      refine (for_ok (r1_ok (j := n) (by refine callB_ok (ds := [.list (offI off n)]) rfl ?_; show some (PyData.int (((offI off n).length : Nat) : Int)) = _; rw [List.length_map, List.length_range]) (by omega))).trans ?_
      refine for_none (b := y_double_1) (fun b => decide (off b = bothE A B f s b)) _ (fun b hb => ⟨ED A B off n a3 a4 (V (.int f)) (V (.int s)) (V (nI b)), rfl, ?_⟩) rfl
      have t2 : bOf (eBin dNe (eBin dIx (eVar 2) (eVar 7)) (eBin dAdd (eIf (bOf (eBin dIn (eVar 7) (eVar 0))) (eVar 5) (eC (.int 0))) (eIf (bOf (eBin dIn (eVar 7) (eVar 1))) (eVar 6) (eC (.int 0))))) (ED A B off n a3 a4 (V (.int f)) (V (.int s)) (V (nI b))) = M.pure (!decide (off b = bothE A B f s b)) :=
        of_ok (bin_ok (x := .int (off b)) (y := .int (bothE A B f s b)) (bin_ok (x := .list (offI off n)) (y := nI b) rfl rfl (off_ix hb)) (bin_ok (x := .int (if b ∈ A then f else 0)) (y := .int (if b ∈ B then s else 0)) (if_in (A := A) (b := b) rfl rfl rfl) (if_in (A := B) (b := b) rfl rfl rfl) rfl) ne_int)
      unfold y_double_1
      cases hq : decide (off b = bothE A B f s b) with
      | false => rw [hq] at t2; exact .inl ⟨rfl, (if_t t2).trans rfl⟩
      | true => rw [hq] at t2; exact .inr ⟨rfl, _, (if_f t2).trans rfl, rfl⟩
    by_cases h1 : ((List.range n).all fun b => decide (off b = bothE A B f s b)) = true
    · rw [if_pos h1] at lp ⊢
      exact (seq_nx lp).trans (ret_ok (tup_ok (xs := [.int f, .int s]) rfl (by show 2 ≤ 16777216; omega)))
    · rw [if_neg h1] at lp ⊢
      exact seq_rt lp
theorem out_ev {A B : List Nat} (hl : A.length ≤ 100000) {ρ : En} {i j : Nat} (e1 : getD ρ i = some (.list (A.map nI))) (hp : ∀ b, bindT (.n 7) (clr ρ [7]) (nI b) = some (setV (clr ρ [7]) 7 (nI b)) ∧ getD (setV (clr ρ [7]) 7 (nI b)) 7 = some (nI b) ∧ getD (setV (clr ρ [7]) 7 (nI b)) j = some (.list (B.map nI))) :
    eComp (.n 7) (itS (eVar i)) (bOf (eBin dNotIn (eVar 7) (eVar j))) (eVar 7) [7] ρ = M.pure (.list ((A.filter fun b => !decide (b ∈ B)).map nI)) :=
  comp_ok (seqS_list (var_ok e1)) (comp_go nI (fun b => !decide (b ∈ B)) nI (fun b => setV (clr ρ [7]) 7 (nI b)) A fun b hb => ⟨(hp b).1, of_ok (bin_ok (var_ok (hp b).2.1) (var_ok (hp b).2.2) notIn_list), fun _ => var_ok (hp b).2.1⟩) (by rw [sizeLine_eq, List.length_map]; exact Nat.le_trans (List.length_filter_le _ _) (by omega))
theorem double_eq {A B : List Nat} {off : Nat → Int} {n : Nat} (hA : A ≠ []) (hB : B ≠ []) (ha : ∀ b ∈ A, b < n) (hb : ∀ b ∈ B, b < n) (hn : n ≤ 1000) (la : A.length ≤ 100000) (lb : B.length ≤ 100000) : m_double [.list (A.map nI), .list (B.map nI), .list (offI off n)] = M.pure (encO2 (dbl A B off n)) := by
  refine mkF_rt ?_
  refine (seq_nx (ρ' := ED A B off n (V (.list ((A.filter fun b => !decide (b ∈ B)).map nI))) none none none none) ((set_ok (out_ev (A := A) (B := B) la rfl fun b => ⟨rfl, rfl, rfl⟩) (by show 3 < 8; omega)).trans rfl)).trans ?_
  refine (seq_nx (ρ' := ED A B off n (V (.list ((A.filter fun b => !decide (b ∈ B)).map nI))) (V (.list ((B.filter fun b => !decide (b ∈ A)).map nI))) none none none) ((set_ok (out_ev (A := B) (B := A) lb rfl fun b => ⟨rfl, rfl, rfl⟩) (by show 4 < 8; omega)).trans rfl)).trans ?_
  unfold dbl
  cases hf : A.filter fun b => !decide (b ∈ B) with
  | cons a r =>
    have ma : a ∈ A := (List.mem_filter.mp (by rw [hf]; exact List.mem_cons_self : a ∈ A.filter fun b => !decide (b ∈ B))).1
    have t1 : bOf (eBin dGt (eCallB dLen (lCons (eVar 3) lNil)) (eC (.int 0))) (ED A B off n (V (.list ((a :: r).map nI))) (V (.list ((B.filter fun b => !decide (b ∈ A)).map nI))) none none none) = M.pure true :=
      of_ok (bin_ok (x := nI (a :: r).length) (y := nI 0) (len_L rfl) rfl (by rw [gt_nat, decide_eq_true (by simp)]))
    refine (seq_nx (ρ' := ED A B off n (V (.list ((a :: r).map nI))) (V (.list ((B.filter fun b => !decide (b ∈ A)).map nI))) (V (.int (off a))) (V (.int (off (B.headD 0) - (if B.headD 0 ∈ A then off a else 0)))) none) ((if_t t1).trans ?_)).trans (chk_tail hn)
    refine (seq_nx (ρ' := ED A B off n (V (.list ((a :: r).map nI))) (V (.list ((B.filter fun b => !decide (b ∈ A)).map nI))) (V (.int (off a))) none none) ((set_ok (bin_ok (x := .list (offI off n)) (y := nI a) rfl (head_ix (A := a :: r) (by simp) rfl) (off_ix (ha a ma))) (by show 5 < 8; omega)).trans rfl)).trans ?_
    refine (set_ok (d := .int (off (B.headD 0) - (if B.headD 0 ∈ A then off a else 0))) (bin_ok (x := .int (off (B.headD 0))) (y := .int (if B.headD 0 ∈ A then off a else 0)) ?_ ?_ rfl) (by show 6 < 8; omega)).trans rfl
    · exact bin_ok (x := .list (offI off n)) (y := nI (B.headD 0)) rfl (head_ix hB rfl) (off_ix (hb _ (headD_mem hB)))
    · exact if_in (A := A) (b := B.headD 0) (head_ix hB rfl) rfl rfl
  | nil =>
    have t1 : bOf (eBin dGt (eCallB dLen (lCons (eVar 3) lNil)) (eC (.int 0))) (ED A B off n (V (.list (([] : List Nat).map nI))) (V (.list ((B.filter fun b => !decide (b ∈ A)).map nI))) none none none) = M.pure false := rfl
    dsimp only
    cases hg : B.filter fun b => !decide (b ∈ A) with
    | nil =>
      rw [hg] at t1
      exact seq_rt ((if_f t1).trans rfl)
    | cons b r =>
      rw [hg] at t1
      have mb : b ∈ B := (List.mem_filter.mp (by rw [hg]; exact List.mem_cons_self : b ∈ B.filter fun b => !decide (b ∈ A))).1
      have t2 : bOf (eBin dGt (eCallB dLen (lCons (eVar 4) lNil)) (eC (.int 0))) (ED A B off n (V (.list (([] : List Nat).map nI))) (V (.list ((b :: r).map nI))) none none none) = M.pure true :=
        of_ok (bin_ok (x := nI (b :: r).length) (y := nI 0) (len_L rfl) rfl (by rw [gt_nat, decide_eq_true (by simp)]))
      refine (seq_nx (ρ' := ED A B off n (V (.list (([] : List Nat).map nI))) (V (.list ((b :: r).map nI))) (V (.int (off (A.headD 0) - off b))) (V (.int (off b))) none) ((if_f t1).trans ((if_t t2).trans ?_))).trans (chk_tail hn)
      refine (seq_nx (ρ' := ED A B off n (V (.list (([] : List Nat).map nI))) (V (.list ((b :: r).map nI))) none (V (.int (off b))) none) ((set_ok (bin_ok (x := .list (offI off n)) (y := nI b) rfl (head_ix (A := b :: r) (by simp) rfl) (off_ix (hb b mb))) (by show 6 < 8; omega)).trans rfl)).trans ?_
      refine (set_ok (d := .int (off (A.headD 0) - off b)) (bin_ok (x := .int (off (A.headD 0))) (y := .int (off b)) ?_ rfl rfl) (by show 5 < 8; omega)).trans rfl
      exact bin_ok (x := .list (offI off n)) (y := nI (A.headD 0)) rfl (head_ix hA rfl) (off_ix (ha _ (headD_mem hA)))
end Lay.K02

set_option Elab.async false
set_option linter.all false
set_option maxRecDepth 100000
set_option maxHeartbeats 2000000
/-! k02: explanations -/
namespace Lay.K02
open PySem PySem.Spec PyProof.Rows L2 Lay Lay.K01

theorem all_map {γ : Type} (f : γ → Bool) (xs : List γ) : dAll [.list (xs.map fun x => .bool (f x))] = some (.bool (xs.all f)) := by
  show (boolsD (xs.map fun x => PyData.bool (f x))).map _ = _
  rw [boolsD_map]
  show some (PyData.bool ((xs.map f).all id)) = _
  rw [List.all_map]; rfl
theorem r2_ok {ρ : En} {e f : EX} {a n : Nat} (h1 : e ρ = M.pure (nI a)) (h2 : f ρ = M.pure (nI n)) (ha : a < 1000000) (hn : n < 1000000) : itR2 e f ρ = M.pure ((List.range (n - a)).map fun i => nI (a + i)) := by
  unfold itR2
  rw [h1, M.pure_bind, h2, M.pure_bind]
  dsimp only
  rw [if_pos (by rw [inR_nat (j := a) (by omega), inR_nat (j := n) (by omega)]; rfl)]
  unfold rngL
  rw [show ((n : Int) - (a : Int)).toNat = n - a by omega]
  refine congrArg M.pure (List.map_congr_left fun i _ => ?_)
  show PyData.int ((a : Int) + (i : Nat)) = PyData.int ((a + i : Nat) : Int)
  rw [Int.natCast_add]
/-! ### lots -/
abbrev Lot := List Bd
noncomputable def singles (ws : List W) (off : Nat → Int) (n : Nat) : List Lot := (teeth ws n).flatMap fun k => (sing (beats ws k n) off n).toList.map fun e => [(k, e)]
noncomputable def tk (ws : List W) (n i : Nat) : K := (teeth ws n).getD i (0, 0)
noncomputable def pairP (ws : List W) (off : Nat → Int) (n i j : Nat) : List Lot := (dbl (beats ws (tk ws n i) n) (beats ws (tk ws n j) n) off n).toList.map fun x => [(tk ws n i, x.1), (tk ws n j, x.2)]
noncomputable def pairsI (ws : List W) (off : Nat → Int) (n i : Nat) : List Lot := (List.range ((teeth ws n).length - (i + 1))).flatMap fun j => pairP ws off n i (i + 1 + j)
noncomputable def pairs (ws : List W) (off : Nat → Int) (n : Nat) : List Lot := (List.range (teeth ws n).length).flatMap fun i => pairsI ws off n i
noncomputable def lots1 (ws : List W) (off : Nat → Int) (n most : Nat) : List Lot := if 0 < most then singles ws off n else []
noncomputable def lots2 (ws : List W) (off : Nat → Int) (n most : Nat) : List Lot := lots1 ws off n most ++ (if 1 < most ∧ (lots1 ws off n most).length = 0 then pairs ws off n else [])
noncomputable def lots (ws : List W) (off : Nat → Int) (n most : Nat) : List Lot := if ((List.range n).all fun b => decide (off b = 0)) = true then [[]] else lots2 ws off n most
theorem sing_len {A : List Nat} {off : Nat → Int} {n : Nat} : (sing A off n).toList.length ≤ 1 := by cases sing A off n <;> simp
theorem dbl_len {A B : List Nat} {off : Nat → Int} {n : Nat} : (dbl A B off n).toList.length ≤ 1 := by cases dbl A B off n <;> simp
theorem flat_len {α β : Type} {f : α → List β} {m : Nat} : ∀ {l : List α}, (∀ x ∈ l, (f x).length ≤ m) → (l.flatMap f).length ≤ l.length * m
  | [], _ => by simp
  | x :: l, h => by
    rw [List.flatMap_cons, List.length_append, List.length_cons, Nat.succ_mul]
    have := h x List.mem_cons_self
    have := flat_len (l := l) fun y hy => h y (List.mem_cons_of_mem _ hy)
    omega
theorem tk_mem {ws : List W} {n i : Nat} (h : i < (teeth ws n).length) : tk ws n i ∈ teeth ws n := by
  unfold tk
  rw [List.getD_eq_getElem?_getD, List.getElem?_eq_getElem h]
  exact List.getElem_mem h
theorem beats_ne {ws : List W} {n : Nat} {k : K} (h : k ∈ teeth ws n) : beats ws k n ≠ [] := fun z => by
  obtain ⟨_, b, hb, e⟩ := mem_teeth.mp h
  have : b ∈ beats ws k n := mem_beats.mpr ⟨hb, decide_eq_true e⟩
  rw [z] at this; cases this
theorem beats_lt {ws : List W} {n : Nat} {k : K} : ∀ b ∈ beats ws k n, b < n := fun b h => (mem_beats.mp h).1
/-! ### what is refused -/
theorem are_ticks_ok {l : List Int} (hl : l.length ≤ 120) (h : ∀ i ∈ l, -1000000 ≤ i ∧ i ≤ 1000000) : m_are_ticks [.tuple (l.map .int)] = M.pure (.bool true) := by
  refine mkF_rt ?_
  refine (seq_nx (ρ' := [V (.tuple (l.map .int)), none]) ((if_f (or_f rfl (of_ok (bin_ok (x := nI l.length) (y := nI 120) (len_T rfl) rfl (by rw [gt_nat, decide_eq_false (by omega)]))))).trans rfl)).trans ?_
  refine ret_ok (d := .bool true) ?_
  have e : l.all (fun _ => true) = true := List.all_eq_true.mpr fun _ _ => rfl
  rw [← e]
  refine all_ok rfl (all_go PyData.int (fun _ => true) (fun i => [V (.int i)]) l fun i hi => ⟨rfl, ?_⟩)
  refine eand_ok (x := true) (y := true) rfl fun _ => bin_ok (x := .int (if i < 0 then -i else i)) (y := .int 1000000) (callB_ok (ds := [.int i]) rfl rfl) rfl ?_
  have := h i hi
  rw [le_int, decide_eq_true (by split <;> omega)]
abbrev tkI (base : Int) (off : Nat → Int) (n : Nat) : List Int := (List.range n).map fun b => base + off b
abbrev tkT (base : Int) (off : Nat → Int) (n : Nat) : D := .tuple ((tkI base off n).map .int)
structure TOk (base : Int) (off : Nat → Int) (n : Nat) : Prop where
  b0 : 20 ≤ base
  b1 : base ≤ 39
  n1 : n ≤ 13
  o : ∀ b, b < n → -7 ≤ off b ∧ off b ≤ 7
theorem TOk.ticks {base : Int} {off : Nat → Int} {n : Nat} (h : TOk base off n) : m_are_ticks [tkT base off n] = M.pure (.bool true) := by
  have := h.b0
  have := h.b1
  have := h.n1
  refine are_ticks_ok (by rw [List.length_map, List.length_range]; omega) fun i hi => ?_
  obtain ⟨b, hb, rfl⟩ := List.mem_map.mp hi
  have := h.o b (List.mem_range.mp hb)
  omega
theorem need_ticks_ok {ws : List W} (h : Tr ws) {base : Int} {off : Nat → Int} {n : Nat} (t : TOk base off n) : m_need_ticks [encT ws, .int base, tkT base off n] = M.pure .none := by
  have := t.b0
  have := t.b1
  refine mkF_nx (ρ := [V (encT ws), V (.int base), V (tkT base off n)]) ?_
  refine (seq_nx (need_e h rfl)).trans ?_
  refine (seq_nx (ρ' := [V (encT ws), V (.int base), V (tkT base off n)]) (exp_ok ((call_ok (ds := [.int base, .str "base", .int 0, .int 1000000]) rfl).trans (need_ok _ (by omega) (by omega))))).trans ?_
  exact (if_f (not_ok (x := true) (of_ok ((call_ok (ds := [tkT base off n]) rfl).trans t.ticks)))).trans rfl
theorem need_t {ws : List W} (h : Tr ws) {base : Int} {off : Nat → Int} {n : Nat} (t : TOk base off n) {ρ : En} (e0 : getD ρ 0 = some (encT ws)) (e1 : getD ρ 1 = some (.int base)) (e2 : getD ρ 2 = some (tkT base off n)) : sExp (eCall m_need_ticks (lCons (eVar 0) (lCons (eVar 1) (lCons (eVar 2) lNil)))) ρ = M.pure (.nx ρ) :=
  exp_ok ((call_ok (ds := [encT ws, .int base, tkT base off n]) (cons_ok (var_ok e0) (cons_ok (var_ok e1) (one_ok (var_ok e2))))).trans (need_ticks_ok h t))
theorem need_m {most : Nat} (h : most ≤ 2) {ρ : En} (e3 : getD ρ 3 = some (nI most)) : sExp (eCall m_need_integer (lCons (eVar 3) (lCons (eC (.str "most")) (lCons (eC (.int 0)) (lCons (eC (.int 2)) lNil))))) ρ = M.pure (.nx ρ) :=
  exp_ok ((call_ok (ds := [nI most, .str "most", .int 0, .int 2]) (cons_ok (var_ok e3) rfl)).trans (need_ok _ (by omega) (by omega)))
/-! ### explanations -/
noncomputable abbrev rowD (ws : List W) (n : Nat) (k : K) : D := .tuple [encK k, .list ((beats ws k n).map nI)]
noncomputable abbrev rowsD (ws : List W) (n : Nat) : D := .list ((teeth ws n).map (rowD ws n))
theorem row_at {ws : List W} {n i : Nat} (h : i < (teeth ws n).length) : dIx (rowsD ws n) (nI i) = some (rowD ws n (tk ws n i)) :=
  ixD_list (by rw [List.getElem?_map, tk, List.getD_eq_getElem?_getD, List.getElem?_eq_getElem h]; rfl)
noncomputable abbrev EXP (ws : List W) (base : Int) (off : Nat → Int) (n most : Nat) (a4 a5 a6 a7 a8 a9 a10 a11 a12 : Option SV) : En := [V (encT ws), V (.int base), V (tkT base off n), V (nI most), a4, a5, a6, a7, a8, a9, a10, a11, a12, none, none]
abbrev ownL (acc : List Lot) : Option SV := some (.own (acc.map encBs))
theorem addKe (k : K) (e : Int) : dAdd (encK k) (.tuple [.int e]) = some (encB (k, e)) := (add_tup (xs := [nI k.1, nI k.2]) (ys := [.int e]) (by show 3 ≤ 16777216; omega)).trans rfl
theorem add_ev {k : K} {e : Int} {ρ : En} {f g : EX} (h1 : f ρ = M.pure (encK k)) (h2 : g ρ = M.pure (.int e)) : eBin dAdd f (eTup (lCons g lNil)) ρ = M.pure (encB (k, e)) :=
  bin_ok h1 (tup_ok (xs := [.int e]) (one_ok h2) (by show 1 ≤ 16777216; omega)) (addKe k e)
theorem s7_ok {ws : List W} (h : Tr ws) {base : Int} {off : Nat → Int} {n most : Nat} (hn : n ≤ 13) : s_explanations_7 (EXP ws base off n most (V (.list (offI off n))) (V (rowsD ws n)) (ownL []) none none none none none none) = M.pure (.nx (EXP ws base off n most (V (.list (offI off n))) (V (rowsD ws n)) (ownL (lots1 ws off n most)) none none none none none none)) := by
  have tl := teeth_len h n
  have t1 : bOf (eBin dGt (eVar 3) (eC (.int 0))) (EXP ws base off n most (V (.list (offI off n))) (V (rowsD ws n)) (ownL []) none none none none none none) = M.pure (decide (0 < most)) := of_ok (bin_ok (x := nI most) (y := nI 0) rfl rfl gt_nat)
  unfold lots1
  by_cases hm : 0 < most
  · rw [decide_eq_true hm] at t1
    rw [if_pos hm]
    refine (if_t t1).trans ?_
    refine (for_ok (seqS_list (ds := (teeth ws n).map (rowD ws n)) rfl)).trans ?_
    refine (for_fold (b := y_explanations_1) (rowD ws n) (fun acc : List Lot => EXP ws base off n most (V (.list (offI off n))) (V (rowsD ws n)) (ownL acc) none none none none none none) (fun acc k => acc ++ (sing (beats ws k n) off n).toList.map fun e => [(k, e)]) (fun r acc => acc.length + r.length ≤ 100 ∧ ∀ k ∈ r, k ∈ teeth ws n) (teeth ws n) [] _ (fun k r acc hi => ?_) ⟨by rw [List.length_nil]; omega, fun _ hk => hk⟩ rfl).trans ?_
    · obtain ⟨hl, hk⟩ := hi
      rw [List.length_cons] at hl
      have hk0 := hk k List.mem_cons_self
      have hk1 : ∀ x ∈ r, x ∈ teeth ws n := fun x hx => hk x (List.mem_cons_of_mem _ hx)
      have u1 : sSet 9 (eCall m_single (lCons (eVar 8) (lCons (eVar 4) lNil))) (EXP ws base off n most (V (.list (offI off n))) (V (rowsD ws n)) (ownL acc) (V (encK k)) (V (.list ((beats ws k n).map nI))) none none none none) = M.pure (.nx (EXP ws base off n most (V (.list (offI off n))) (V (rowsD ws n)) (ownL acc) (V (encK k)) (V (.list ((beats ws k n).map nI))) (V (encO (sing (beats ws k n) off n))) none none none)) :=
        (set_ok ((call_ok (ds := [.list ((beats ws k n).map nI), .list (offI off n)]) rfl).trans (single_eq (beats_ne hk0) beats_lt (by omega))) (by show 9 < 15; omega)).trans rfl
      cases hs : sing (beats ws k n) off n with
      | none =>
        rw [hs] at u1
        refine ⟨EXP ws base off n most (V (.list (offI off n))) (V (rowsD ws n)) (ownL acc) (V (encK k)) (V (.list ((beats ws k n).map nI))) none none none none, _, rfl, (seq_nx u1).trans ((if_f (of_ok (bin_ok rfl rfl rfl))).trans rfl), ?_, ?_, hk1⟩
        · show _ = EXP ws base off n most _ _ (ownL (acc ++ [])) none none none none none none
          rw [List.append_nil]; rfl
        · show (acc ++ []).length + r.length ≤ 100
          rw [List.append_nil]; omega
      | some e =>
        rw [hs] at u1
        refine ⟨EXP ws base off n most (V (.list (offI off n))) (V (rowsD ws n)) (ownL acc) (V (encK k)) (V (.list ((beats ws k n).map nI))) none none none none, EXP ws base off n most (V (.list (offI off n))) (V (rowsD ws n)) (ownL (acc ++ [[(k, e)]])) (V (encK k)) (V (.list ((beats ws k n).map nI))) (V (.int e)) none none none, rfl, (seq_nx u1).trans ((if_t (of_ok (bin_ok rfl rfl rfl))).trans ?_), rfl, ?_, hk1⟩
        · refine (app_ok (ds := acc.map encBs) (d := encBs [(k, e)]) rfl (tup_ok (xs := [encB (k, e)]) (one_ok (add_ev rfl rfl)) (by show 1 ≤ 16777216; omega)) (by rw [sizeLine_eq, List.length_map]; omega)).trans ?_
          show M.pure (Fl.nx (setO _ 6 (acc.map encBs ++ [encBs [(k, e)]]))) = _
          have : acc.map encBs ++ [encBs [(k, e)]] = (acc ++ [[(k, e)]]).map encBs := by rw [List.map_append]; rfl
          rw [this]; rfl
        · show (acc ++ [[(k, e)]]).length + r.length ≤ 100
          rw [List.length_append]; simp; omega
    · have go : ∀ (l : List K) (acc : List Lot), l.foldl (fun acc k => acc ++ (sing (beats ws k n) off n).toList.map fun e => [(k, e)]) acc = acc ++ l.flatMap fun k => (sing (beats ws k n) off n).toList.map fun e => [(k, e)] := fun l => by
        induction l with
        | nil => intro acc; simp
        | cons x l ih => intro acc; rw [List.foldl_cons, ih, List.flatMap_cons, List.append_assoc]
      rw [go, List.nil_append]; rfl
  · rw [decide_eq_false hm] at t1
    rw [if_neg hm]
    exact (if_f t1).trans rfl
theorem pairP_len {ws : List W} {off : Nat → Int} {n i j : Nat} : (pairP ws off n i j).length ≤ 1 := by unfold pairP; rw [List.length_map]; exact dbl_len
theorem pairsI_len {ws : List W} {off : Nat → Int} {n i : Nat} : (pairsI ws off n i).length ≤ (teeth ws n).length := by
  unfold pairsI
  have := flat_len (l := List.range ((teeth ws n).length - (i + 1))) (f := fun j => pairP ws off n i (i + 1 + j)) (m := 1) fun j _ => pairP_len
  rw [List.length_range, Nat.mul_one] at this
  omega
theorem y3_ok {ws : List W} (h : Tr ws) {base : Int} {off : Nat → Int} {n most i : Nat} (hn : n ≤ 13) {acc : List Lot} (ha : acc.length ≤ 10000) (hi : i < (teeth ws n).length) : y_explanations_3 (EXP ws base off n most (V (.list (offI off n))) (V (rowsD ws n)) (ownL acc) none none none (V (nI i)) none none) = M.pure (.nx (EXP ws base off n most (V (.list (offI off n))) (V (rowsD ws n)) (ownL (acc ++ pairsI ws off n i)) none none none (V (nI i)) none none)) := by
  have tl := teeth_len h n
  unfold y_explanations_3
  refine (for_ok (r2_ok (a := i + 1) (n := (teeth ws n).length) (bin_ok (x := nI i) (y := nI 1) rfl rfl add_nat) (len_L rfl) (by omega) (by omega))).trans ?_
  refine (for_fold (b := y_explanations_2) (fun j : Nat => nI (i + 1 + j)) (fun acc : List Lot => EXP ws base off n most (V (.list (offI off n))) (V (rowsD ws n)) (ownL acc) none none none (V (nI i)) none none) (fun acc j => acc ++ pairP ws off n i (i + 1 + j)) (fun r acc => acc.length + r.length ≤ 11000 ∧ ∀ j ∈ r, j < (teeth ws n).length - (i + 1)) _ acc _ (fun j r acc hi' => ?_) ⟨by rw [List.length_range]; omega, fun j hj => List.mem_range.mp hj⟩ rfl).trans ?_
  · obtain ⟨hl, hj⟩ := hi'
    rw [List.length_cons] at hl
    have hj0 := hj j List.mem_cons_self
    have hj1 : ∀ x ∈ r, x < (teeth ws n).length - (i + 1) := fun x hx => hj x (List.mem_cons_of_mem _ hx)
    have hi2 : i + 1 + j < (teeth ws n).length := by omega
    have mi := tk_mem hi
    have mj := tk_mem hi2
    generalize hA : tk ws n i = k at *
    generalize hB : tk ws n (i + 1 + j) = k2 at *
    have ri := row_at hi
    have rj := row_at hi2
    rw [hA] at ri
    rw [hB] at rj
    have u1 : sSet 12 (eCall m_double (lCons (eBin dIx (eBin dIx (eVar 5) (eVar 10)) (eC (.int 1))) (lCons (eBin dIx (eBin dIx (eVar 5) (eVar 11)) (eC (.int 1))) (lCons (eVar 4) lNil)))) (EXP ws base off n most (V (.list (offI off n))) (V (rowsD ws n)) (ownL acc) none none none (V (nI i)) (V (nI (i + 1 + j))) none) = M.pure (.nx (EXP ws base off n most (V (.list (offI off n))) (V (rowsD ws n)) (ownL acc) none none none (V (nI i)) (V (nI (i + 1 + j))) (V (encO2 (dbl (beats ws k n) (beats ws k2 n) off n))))) :=
      (set_ok ((call_ok (ds := [.list ((beats ws k n).map nI), .list ((beats ws k2 n).map nI), .list (offI off n)]) (cons_ok (bin_ok (x := rowD ws n k) (y := nI 1) (bin_ok (x := rowsD ws n) (y := nI i) rfl rfl ri) rfl rfl) (cons_ok (bin_ok (x := rowD ws n k2) (y := nI 1) (bin_ok (x := rowsD ws n) (y := nI (i + 1 + j)) rfl rfl rj) rfl rfl) rfl))).trans (double_eq (beats_ne mi) (beats_ne mj) beats_lt beats_lt (by omega) (by have := beats_len (ws := ws) (k := k) (n := n); omega) (by have := beats_len (ws := ws) (k := k2) (n := n); omega))) (by show 12 < 15; omega)).trans rfl
    have ep : pairP ws off n i (i + 1 + j) = (dbl (beats ws k n) (beats ws k2 n) off n).toList.map fun x => [(k, x.1), (k2, x.2)] := by unfold pairP; rw [hA, hB]
    cases hs : dbl (beats ws k n) (beats ws k2 n) off n with
    | none =>
      rw [hs] at u1 ep
      have ep : pairP ws off n i (i + 1 + j) = [] := ep
      refine ⟨EXP ws base off n most (V (.list (offI off n))) (V (rowsD ws n)) (ownL acc) none none none (V (nI i)) (V (nI (i + 1 + j))) none, _, rfl, (seq_nx u1).trans ((if_f (of_ok (bin_ok rfl rfl rfl))).trans rfl), ?_, ?_, hj1⟩
      · rw [ep, List.append_nil]; rfl
      · rw [ep, List.append_nil]; omega
    | some x =>
      rw [hs] at u1 ep
      have ep : pairP ws off n i (i + 1 + j) = [[(k, x.1), (k2, x.2)]] := ep
      refine ⟨EXP ws base off n most (V (.list (offI off n))) (V (rowsD ws n)) (ownL acc) none none none (V (nI i)) (V (nI (i + 1 + j))) none, EXP ws base off n most (V (.list (offI off n))) (V (rowsD ws n)) (ownL (acc ++ [[(k, x.1), (k2, x.2)]])) none none none (V (nI i)) (V (nI (i + 1 + j))) (V (.tuple [.int x.1, .int x.2])), rfl, (seq_nx u1).trans ((if_t (of_ok (bin_ok rfl rfl rfl))).trans ?_), ?_, ?_, hj1⟩
      · refine (app_ok (ds := acc.map encBs) (d := encBs [(k, x.1), (k2, x.2)]) rfl (tup_ok (xs := [encB (k, x.1), encB (k2, x.2)]) (cons_ok (add_ev (bin_ok (x := rowD ws n k) (y := nI 0) (bin_ok (x := rowsD ws n) (y := nI i) rfl rfl ri) rfl rfl) rfl) (one_ok (add_ev (bin_ok (x := rowD ws n k2) (y := nI 0) (bin_ok (x := rowsD ws n) (y := nI (i + 1 + j)) rfl rfl rj) rfl rfl) rfl))) (by show 2 ≤ 16777216; omega)) (by rw [sizeLine_eq, List.length_map]; omega)).trans ?_
        show M.pure (Fl.nx (setO _ 6 (acc.map encBs ++ [encBs [(k, x.1), (k2, x.2)]]))) = _
        have : acc.map encBs ++ [encBs [(k, x.1), (k2, x.2)]] = (acc ++ [[(k, x.1), (k2, x.2)]]).map encBs := by rw [List.map_append]; rfl
        rw [this]; rfl
      · rw [ep]; rfl
      · rw [ep, List.length_append]; simp; omega
  · have go : ∀ (l : List Nat) (acc : List Lot), l.foldl (fun acc j => acc ++ pairP ws off n i (i + 1 + j)) acc = acc ++ l.flatMap fun j => pairP ws off n i (i + 1 + j) := fun l => by
      induction l with
      | nil => intro acc; simp
      | cons x l ih => intro acc; rw [List.foldl_cons, ih, List.flatMap_cons, List.append_assoc]
    rw [go]; rfl
theorem s8_ok {ws : List W} (h : Tr ws) {base : Int} {off : Nat → Int} {n most : Nat} (hn : n ≤ 13) (hl : (lots1 ws off n most).length ≤ 1000) : s_explanations_8 (EXP ws base off n most (V (.list (offI off n))) (V (rowsD ws n)) (ownL (lots1 ws off n most)) none none none none none none) = M.pure (.nx (EXP ws base off n most (V (.list (offI off n))) (V (rowsD ws n)) (ownL (lots2 ws off n most)) none none none none none none)) := by
  have tl := teeth_len h n
  have t1 : bAnd (bOf (eBin dGt (eVar 3) (eC (.int 1)))) (bOf (eBin dEq (eOwnLen 6) (eC (.int 0)))) (EXP ws base off n most (V (.list (offI off n))) (V (rowsD ws n)) (ownL (lots1 ws off n most)) none none none none none none) = M.pure (decide (1 < most) && decide ((lots1 ws off n most).length = 0)) :=
    and_ok (of_ok (bin_ok (x := nI most) (y := nI 1) rfl rfl gt_nat)) fun _ => of_ok (bin_ok (x := nI (lots1 ws off n most).length) (y := nI 0) ((ownLen_ok (ds := (lots1 ws off n most).map encBs) rfl).trans (by rw [List.length_map])) rfl eq_nat)
  unfold lots2
  by_cases hm : 1 < most ∧ (lots1 ws off n most).length = 0
  · rw [decide_eq_true hm.1, decide_eq_true hm.2] at t1
    rw [if_pos hm]
    refine (if_t t1).trans ?_
    refine (for_ok (r1_ok (j := (teeth ws n).length) (len_L rfl) (by omega))).trans ?_
    generalize lots1 ws off n most = l1 at hl
    refine (for_fold (b := y_explanations_3) (fun i : Nat => PyData.int (i : Nat)) (fun acc : List Lot => EXP ws base off n most (V (.list (offI off n))) (V (rowsD ws n)) (ownL acc) none none none none none none) (fun acc i => acc ++ pairsI ws off n i) (fun r acc => acc.length + r.length * 26 ≤ 9000 ∧ ∀ i ∈ r, i < (teeth ws n).length) _ l1 _ (fun i r acc hi' => ?_) ⟨by rw [List.length_range]; omega, fun i hi => List.mem_range.mp hi⟩ rfl).trans ?_
    · obtain ⟨hl', hi⟩ := hi'
      rw [List.length_cons] at hl'
      have pl := pairsI_len (ws := ws) (off := off) (n := n) (i := i)
      exact ⟨EXP ws base off n most (V (.list (offI off n))) (V (rowsD ws n)) (ownL acc) none none none (V (nI i)) none none, _, rfl, y3_ok h hn (by omega) (hi i List.mem_cons_self), rfl, by rw [List.length_append]; omega, fun x hx => hi x (List.mem_cons_of_mem _ hx)⟩
    · have go : ∀ (l : List Nat) (acc : List Lot), l.foldl (fun acc i => acc ++ pairsI ws off n i) acc = acc ++ l.flatMap fun i => pairsI ws off n i := fun l => by
        induction l with
        | nil => intro acc; simp
        | cons x l ih => intro acc; rw [List.foldl_cons, ih, List.flatMap_cons, List.append_assoc]
      rw [go]; rfl
  · have e : (decide (1 < most) && decide ((lots1 ws off n most).length = 0)) = false := by
      rw [← Bool.not_eq_true]; simpa using hm
    rw [e] at t1
    rw [if_neg hm, List.append_nil]
    exact (if_f t1).trans rfl
theorem lots1_len {ws : List W} (h : Tr ws) {off : Nat → Int} {n most : Nat} (hn : n ≤ 13) : (lots1 ws off n most).length ≤ 26 := by
  have tl := teeth_len h n
  unfold lots1
  split
  · have := flat_len (l := teeth ws n) (f := fun k => (sing (beats ws k n) off n).toList.map fun e => [(k, e)]) (m := 1) fun k _ => by rw [List.length_map]; exact sing_len
    unfold singles
    omega
  · exact Nat.zero_le _
theorem expl_eq {ws : List W} (h : Tr ws) {base : Int} {off : Nat → Int} {n most : Nat} (t : TOk base off n) (hm : most ≤ 2) : m_explanations [encT ws, .int base, tkT base off n, nI most] = M.pure (.tuple ((lots ws off n most).map encBs)) := by
  have hn := t.n1
  refine mkF_rt ?_
  refine (seq_nx (need_t h t rfl rfl rfl)).trans ?_
  refine (seq_nx (need_m hm rfl)).trans ?_
  have c3 : eComp (.n 13) (itS (eVar 2)) bYes (eBin dSub (eVar 13) (eVar 1)) [13] (EXP ws base off n most none none none none none none none none none) = M.pure (.list (offI off n)) := by
    refine comp_ok (ds := (tkI base off n).map .int) rfl ?_ (by rw [sizeLine_eq, List.length_map, List.length_range]; omega)
    have e := comp_go (ρ := EXP ws base off n most none none none none none none none none none) (tg := .n 13) (conds := bYes) (elt := eBin dSub (eVar 13) (eVar 1)) (vs := [13]) (fun b : Nat => PyData.int (base + off b)) (fun _ => true) (fun b => PyData.int (off b)) (fun b => [V (encT ws), V (.int base), V (tkT base off n), V (nI most), none, none, none, none, none, none, none, none, none, V (.int (base + off b)), none]) (List.range n) fun b _ => ⟨rfl, rfl, fun _ => bin_ok (x := .int (base + off b)) (y := .int base) rfl rfl (by show some (PyData.int (base + off b - base)) = _; rw [show base + off b - base = off b by omega])⟩
    rw [List.filter_eq_self.mpr (fun _ _ => rfl)] at e
    rw [List.map_map]
    exact e
  refine (seq_nx (ρ' := EXP ws base off n most (V (.list (offI off n))) none none none none none none none none) ((set_ok c3 (by show 4 < 15; omega)).trans rfl)).trans ?_
  have t4 : bOf (eCallB dAll (lCons (eComp (.n 14) (itS (eVar 4)) bYes (eBin dEq (eVar 14) (eC (.int 0))) [14]) lNil)) (EXP ws base off n most (V (.list (offI off n))) none none none none none none none none) = M.pure ((List.range n).all fun b => decide (off b = 0)) := by
    refine of_ok (callB_ok (ds := [.list ((List.range n).map fun b => .bool (decide (off b = 0)))]) (one_ok ?_) (all_map _ _))
    refine comp_ok (ds := offI off n) rfl ?_ (by rw [sizeLine_eq, List.length_map, List.length_range]; omega)
    have e := comp_go (ρ := EXP ws base off n most (V (.list (offI off n))) none none none none none none none none) (tg := .n 14) (conds := bYes) (elt := eBin dEq (eVar 14) (eC (.int 0))) (vs := [14]) (fun b : Nat => PyData.int (off b)) (fun _ => true) (fun b => PyData.bool (decide (off b = 0))) (fun b => [V (encT ws), V (.int base), V (tkT base off n), V (nI most), V (.list (offI off n)), none, none, none, none, none, none, none, none, none, V (.int (off b))]) (List.range n) fun b _ => ⟨rfl, rfl, fun _ => bin_ok (x := .int (off b)) (y := .int 0) rfl rfl eq_int⟩
    rw [List.filter_eq_self.mpr (fun _ _ => rfl)] at e
    exact e
  unfold lots
  by_cases h0 : ((List.range n).all fun b => decide (off b = 0)) = true
  · rw [h0] at t4
    rw [if_pos h0]
    exact seq_rt ((if_t t4).trans (ret_ok (tup_ok (xs := [.tuple []]) (one_ok (tup_ok (xs := []) rfl (by show 0 ≤ 16777216; omega))) (by show 1 ≤ 16777216; omega))))
  · rw [Bool.eq_false_iff.mpr h0] at t4
    rw [if_neg h0]
    refine (seq_nx ((if_f t4).trans rfl)).trans ?_
    have wk : eCall m_working (lCons (eVar 0) (lCons (eCallB dLen (lCons (eVar 2) lNil)) lNil)) (EXP ws base off n most (V (.list (offI off n))) none none none none none none none none) = M.pure (rowsD ws n) :=
      (call_ok (ds := [encT ws, nI n]) (cons_ok rfl (one_ok ((len_T (f := PyData.int) (ws := tkI base off n) rfl).trans (by rw [List.length_map, List.length_range]))))).trans (working_eq h (by omega))
    refine (seq_nx (ρ' := EXP ws base off n most (V (.list (offI off n))) (V (rowsD ws n)) none none none none none none none) ((set_ok wk (by show 5 < 15; omega)).trans rfl)).trans ?_
    refine (seq_nx (ρ' := EXP ws base off n most (V (.list (offI off n))) (V (rowsD ws n)) (ownL []) none none none none none none) ((own_ok (by show 6 < 15; omega)).trans rfl)).trans ?_
    refine (seq_nx (s7_ok h hn)).trans ?_
    refine (seq_nx (s8_ok h hn (by have := lots1_len h (off := off) (most := most) hn; omega))).trans ?_
    exact ret_ok (e := eCallB dTuple (lCons (eVar 6) lNil)) (d := .tuple ((lots2 ws off n most).map encBs)) (ρ := EXP ws base off n most (V (.list (offI off n))) (V (rowsD ws n)) (V (.list ((lots2 ws off n most).map encBs))) none none none none none none) rfl
end Lay.K02

set_option Elab.async false
set_option linter.all false
set_option maxRecDepth 100000
set_option maxHeartbeats 2000000
/-! k02: the law's own lots: one tooth -/
namespace Lay.K02
open PySem PySem.Spec PyProof.Rows L2 Lay Lay.K01

theorem max_ints {l : List Int} (h : l ≠ []) : ∃ m : Int, dAlt dMaxL dMaxT [.list (l.map .int)] = some (.int m) ∧ ∀ x ∈ l, x ≤ m := by
  cases l with
  | nil => exact absurd rfl h
  | cons i r =>
    refine ⟨r.foldl (fun a b => if b > a then b else a) i, ?_, fun x hx => (maxI_ge r i).1 x hx⟩
    · have : dMaxL [.list ((i :: r).map .int)] = some (.int (r.foldl (fun a b => if b > a then b else a) i)) := by
        show (intsD ((i :: r).map .int)).bind _ = _
        rw [intsD_map]; rfl
      unfold dAlt
      rw [this]
theorem par_ok {ρ : En} {i j : Nat} {a b : EX} {x y : D} (h1 : a ρ = M.pure x) (h2 : b ρ = M.pure y) (hi : i < ρ.length) (hj : j < ρ.length) : sPar i j a b ρ = M.pure (.nx (setV (setV ρ i x) j y)) := by
  unfold sPar
  rw [h1, M.pure_bind, h2, M.pure_bind, if_pos ⟨hi, hj⟩]
theorem eq_ints {l l' : List Int} {c : Prop} [Decidable c] (h : l = l' ↔ c) : dEq (.list (l.map .int)) (.list (l'.map .int)) = some (.bool (decide c)) :=
  eqD_true (n := 1) (m := 1) (d := .list (l.map .int)) (e := .list (l'.map .int)) (plain_ints l) (plain_ints l') (by omega) (by omega) c
    (⟨fun e => h.mp (by injection e with e; exact map_inj int_inj e), fun e => by rw [h.mpr e]⟩)
theorem ne_ints {l l' : List Int} {c : Prop} [Decidable c] (h : l = l' ↔ c) : dNe (.list (l.map .int)) (.list (l'.map .int)) = some (.bool (!decide c)) :=
  neD_true (n := 1) (m := 1) (d := .list (l.map .int)) (e := .list (l'.map .int)) (plain_ints l) (plain_ints l') (by omega) (by omega) c
    (⟨fun e => h.mp (by injection e with e; exact map_inj int_inj e), fun e => by rw [h.mpr e]⟩)
theorem map_range {f g : Nat → Int} {n : Nat} : (List.range n).map f = (List.range n).map g ↔ ∀ b, b < n → f b = g b := by
  rw [List.map_inj_left]
  exact ⟨fun h b hb => h b (List.mem_range.mpr hb), fun h b hb => h b (List.mem_range.mp hb)⟩
theorem all_range {p : Nat → Prop} [∀ b, Decidable (p b)] {n : Nat} : ((List.range n).all fun b => decide (p b)) = true ↔ ∀ b, b < n → p b := by
  rw [List.all_eq_true]
  exact ⟨fun h b hb => of_decide_eq_true (h b (List.mem_range.mpr hb)), fun h b hb => decide_eq_true (h b (List.mem_range.mp hb))⟩
theorem sm_nil {ws : List W} {b : Nat} : sm ws [] b = 0 := rfl
theorem sm_one {ws : List W} {k : K} {e : Int} {b n : Nat} (hb : b < n) : sm ws [(k, e)] b = if b ∈ beats ws k n then e else 0 := by
  have e : b ∈ beats ws k n ↔ works ws k b = true := mem_beats.trans ⟨fun z => z.2, fun z => ⟨hb, z⟩⟩
  unfold sm
  cases h : works ws k b with
  | true =>
    rw [if_pos (e.mpr h)]
    simp [List.filter, h]
  | false =>
    rw [if_neg (fun z => by rw [e.mp z] at h; cases h)]
    simp [List.filter, h]
/-! ### the slots -/
abbrev tkL (base : Int) (off : Nat → Int) (n : Nat) : D := .list ((tkI base off n).map .int)
abbrev EQ (ws : List W) (base : Int) (off : Nat → Int) (n most : Nat) (a5 a6 a7 a8 a9 a10 a11 a12 a13 a14 a15 a16 a17 a18 a19 a20 a21 a22 : Option SV) : En :=
  [V (encT ws), V (.int base), V (tkL base off n), V (nI most), V (nI n), a5, a6, a7, a8, a9, a10, a11, a12, a13, a14, a15, a16, a17, a18, a19, a20, a21, a22, none, none, none]
abbrev rowT (l : List K) : Option SV := some (.dT (l.map fun k => (kI k, PyData.bool true)))
theorem len_ev {ws : List W} (h : Tr ws) {base : Int} {bs : List Bd} (hb : ∀ x ∈ bs, x.1.1 < ws.length) (hl : bs.length ≤ 2) {n : Nat} (hn : n ≤ 13) {ρ : En} {a c : EX} (e0 : getD ρ 0 = some (encT ws)) (ha : a ρ = M.pure (.int base)) (hc : c ρ = M.pure (encBs bs)) (e4 : getD ρ 4 = some (nI n)) :
    eCall m__law_lengths (lCons (eVar 0) (lCons a (lCons c (lCons (eVar 4) lNil)))) ρ = M.pure (.list ((lenT ws base bs n).map .int)) :=
  (call_ok (ds := [encT ws, .int base, encBs bs, nI n]) (cons_ok (var_ok e0) (cons_ok ha (cons_ok hc (one_ok (var_ok e4)))))).trans (law_len_eq h hb (by omega) (by omega))
theorem l1_ok {ws : List W} {base : Int} {off : Nat → Int} {n most c w : Nat} (h : Tr ws) (hc : c < n) (hn : n ≤ 13) (hw : w < ws.length) {a6 : Option SV} (hs : soleT (EQ ws base off n most (rowT (part ws c w)) a6 (V (nI c)) (V (nI w)) none none none none none none none none none none none none none none) 5 = true) :
    y__law_lots_1 (EQ ws base off n most (rowT (part ws c w)) a6 (V (nI c)) (V (nI w)) none none none none none none none none none none none none none none) = M.pure (.nx (EQ ws base off n most (rowT (part ws c (w + 1))) a6 (V (nI c)) (V (nI w)) none none none none none none none none none none none none none none)) := by
  have pl := part_len h c w (by omega)
  have k1 : eTup (lCons (eVar 8) (lCons (eBin dIx (eCall m__law_places (lCons (eVar 0) (lCons (eVar 7) lNil))) (eVar 8)) lNil)) (EQ ws base off n most (rowT (part ws c w)) a6 (V (nI c)) (V (nI w)) none none none none none none none none none none none none none none) = M.pure (encK (w, val (ws.getD w (2, 1)) c)) :=
    tup_ok (xs := [nI w, nI (val (ws.getD w (2, 1)) c)]) (cons_ok rfl (one_ok (bin_ok (x := encP (vals ws c)) (y := nI w) ((call_ok (ds := [encT ws, nI c]) rfl).trans (law_places_eq h c)) rfl (row_ix hw)))) (by show 2 ≤ 16777216; omega)
  unfold y__law_lots_1 sTSet
  show M.bind (M.pure (PyData.bool true)) _ = _
  rw [M.pure_bind, k1, M.pure_bind, tupN_K]
  dsimp only
  rw [if_pos ⟨by rw [sizeLine_eq, List.length_map]; omega, by
    rw [List.map_map]
    exact List.pairwise_map.mpr ((part_nodup ws c w).imp fun {a b} h z => h (kI_inj z)), hs⟩, putT_map, ← part_succ]
  rfl
theorem s4_ok {ws : List W} {base : Int} {off : Nat → Int} {n most : Nat} (h : Tr ws) (hn : n ≤ 13) {wd : D} : s__law_lots_4 (EQ ws base off n most (rowT []) (V wd) none none none none none none none none none none none none none none none none) = M.pure (.nx (EQ ws base off n most (rowT (keys ws n)) (V wd) none none none none none none none none none none none none none none none none)) := by
  have hl := h.len
  unfold s__law_lots_4
  refine (for_ok (r1_ok (j := n) rfl (by omega))).trans ?_
  refine (for_fold (b := y__law_lots_2) (fun i : Nat => PyData.int (i : Nat)) (fun c : Nat => EQ ws base off n most (rowT (keys ws c)) (V wd) none none none none none none none none none none none none none none none none) (fun c _ => c + 1) (fun r c => r = (List.range n).drop c) (List.range n) 0 _ (fun x r c hi => ?_) (by rw [List.drop_zero]) rfl).trans (by rw [foldl_count, List.length_range, Nat.zero_add])
  obtain ⟨rfl, er, hc⟩ := range_next hi
  refine ⟨EQ ws base off n most (rowT (keys ws x)) (V wd) (V (nI x)) none none none none none none none none none none none none none none none, EQ ws base off n most (rowT (keys ws (x + 1))) (V wd) (V (nI x)) none none none none none none none none none none none none none none none, rfl, ?_, rfl, er⟩
  unfold y__law_lots_2
  refine (for_ok (r1_ok (j := ws.length) (len_T rfl) (by omega))).trans ?_
  rw [← part_all]
  refine (for_fold (b := y__law_lots_1) (fun i : Nat => PyData.int (i : Nat)) (fun w : Nat => EQ ws base off n most (rowT (part ws x w)) (V wd) (V (nI x)) none none none none none none none none none none none none none none none) (fun w _ => w + 1) (fun r w => r = (List.range ws.length).drop w) (List.range ws.length) 0 _ (fun y r w hi => ?_) (by rw [List.drop_zero]) rfl).trans (by rw [foldl_count, List.length_range, Nat.zero_add])
  obtain ⟨rfl, er, hw⟩ := range_next hi
  exact ⟨EQ ws base off n most (rowT (part ws x y)) (V wd) (V (nI x)) (V (nI y)) none none none none none none none none none none none none none none, _, rfl, l1_ok h hc hn hw rfl, rfl, er⟩
/-! ### teeth, errors -/
noncomputable abbrev teethD (ws : List W) (n : Nat) : D := .list ((teeth ws n).map encK)
abbrev errD (m : Nat) : D := .list ((errs m).map .int)
theorem s5_ok {ws : List W} {base : Int} {off : Nat → Int} {n most m : Nat} (hm : m ≤ 1000) : s__law_lots_5 (EQ ws base off n most (rowT (keys ws n)) (V (nI m)) none none none none none none none none none none none none none none none none) = M.pure (.nx (EQ ws base off n most (rowT (keys ws n)) (V (nI m)) none none (V (teethD ws n)) (V (errD m)) none none none none none none none none none none none none)) := by
  refine (par_ok (x := teethD ws n) (y := errD m) ?_ ?_ (by show 9 < 26; omega) (by show 10 < 26; omega)).trans rfl
  · show M.lift (dSortA [.list (((keys ws n).map fun k => (kI k, PyData.bool true)).map fun p => tupI p.1)]) = _
    rw [List.map_map, show ((fun p : List Int × D => tupI p.1) ∘ fun k => (kI k, PyData.bool true)) = encK from rfl]
    unfold dSortA
    dsimp only
    rw [if_pos (srtOk_keys _), srtK_eq]; rfl
  · have it : itR2 (eBin dSub (eC (.int 0)) (eVar 6)) (eBin dAdd (eVar 6) (eC (.int 1))) (EQ ws base off n most (rowT (keys ws n)) (V (nI m)) none none none none none none none none none none none none none none none none) = M.pure ((List.range (2 * m + 1)).map fun i => PyData.int (-(m : Int) + (i : Nat))) := by
      unfold itR2
      rw [show eBin dSub (eC (.int 0)) (eVar 6) (EQ ws base off n most (rowT (keys ws n)) (V (nI m)) none none none none none none none none none none none none none none none none) = M.pure (.int (-(m : Int))) from bin_ok (x := .int 0) (y := nI m) rfl rfl (by show some (PyData.int (0 - (m : Int))) = _; rw [Int.zero_sub]), M.pure_bind]
      rw [show eBin dAdd (eVar 6) (eC (.int 1)) (EQ ws base off n most (rowT (keys ws n)) (V (nI m)) none none none none none none none none none none none none none none none none) = M.pure (.int ((m : Int) + 1)) from rfl, M.pure_bind]
      dsimp only
      rw [if_pos (by unfold inR; simp only [Bool.and_eq_true, decide_eq_true_eq]; omega)]
      unfold rngL
      rw [show ((m : Int) + 1 - -(m : Int)).toNat = 2 * m + 1 by omega]
    have e := comp_go (ρ := EQ ws base off n most (rowT (keys ws n)) (V (nI m)) none none none none none none none none none none none none none none none none) (tg := .n 17) (conds := bOf (eBin dNe (eVar 17) (eC (.int 0)))) (elt := eVar 17) (vs := [17]) (fun i : Nat => PyData.int (-(m : Int) + (i : Nat))) (fun i => !decide (-(m : Int) + (i : Nat) = 0)) (fun i => PyData.int (-(m : Int) + (i : Nat))) (fun i => EQ ws base off n most (rowT (keys ws n)) (V (nI m)) none none none none none none none none none none (V (.int (-(m : Int) + (i : Nat)))) none none none none none) (List.range (2 * m + 1)) fun i _ => ⟨rfl, of_ok (bin_ok (x := .int (-(m : Int) + (i : Nat))) (y := .int 0) rfl rfl ne_int), fun _ => rfl⟩
    have es : errD m = .list (((List.range (2 * m + 1)).filter fun i => !decide (-(m : Int) + (i : Nat) = 0)).map fun i => PyData.int (-(m : Int) + (i : Nat))) := by
      show PyData.list _ = PyData.list _
      unfold errs
      rw [List.filter_map, List.map_map]; rfl
    rw [es]
    exact comp_ok it e (by rw [sizeLine_eq, List.length_map]; refine Nat.le_trans (List.length_filter_le _ _) ?_; rw [List.length_range]; omega)
/-! ### one tooth -/
noncomputable abbrev EQ2 (ws : List W) (base : Int) (off : Nat → Int) (n most m : Nat) (acc : List Lot) (a8 a12 a13 a14 a15 a16 a17 a18 a19 a20 a21 a22 : Option SV) : En := EQ ws base off n most (rowT (keys ws n)) (V (nI m)) none a8 (V (teethD ws n)) (V (errD m)) (ownL acc) a12 a13 a14 a15 a16 a17 a18 a19 a20 a21 a22
theorem errs_len (m : Nat) : (errs m).length ≤ 2 * m + 1 := by
  unfold errs
  exact Nat.le_trans (List.length_filter_le _ _) (by rw [List.length_map, List.length_range]; exact Nat.le_refl _)
theorem y3l_ok {ws : List W} (h : Tr ws) {base : Int} {off : Nat → Int} {n most m : Nat} (hn : n ≤ 13) (hm : m ≤ 1000) {acc : List Lot} (ha : acc.length ≤ 100000) {k : K} (hk : k ∈ teeth ws n) :
    y__law_lots_3 (EQ2 ws base off n most m acc (V (nI k.1)) (V (nI k.2)) none none none none none none none none none none) = M.pure (.nx (EQ2 ws base off n most m (acc ++ ((errs m).filter (okOne (beats ws k n) off n)).map fun e => [(k, e)]) (V (nI k.1)) (V (nI k.2)) none none none none none none none none none none)) := by
  have hk1 := (mem_teeth.mp hk).1
  have tup : ∀ e : Int, eTup (lCons (eTup (lCons (eVar 8) (lCons (eVar 12) (lCons (eVar 17) lNil)))) lNil) (EQ2 ws base off n most m acc (V (nI k.1)) (V (nI k.2)) none none none none (V (.int e)) none none none none none) = M.pure (encBs [(k, e)]) := fun e =>
    tup_ok (xs := [encB (k, e)]) (one_ok (tup_ok (xs := [nI k.1, nI k.2, .int e]) rfl (by show 3 ≤ 16777216; omega))) (by show 1 ≤ 16777216; omega)
  have el := errs_len m
  have cp : eComp (.n 17) (itS (eVar 10)) (bOf (eBin dEq (eCall m__law_lengths (lCons (eVar 0) (lCons (eVar 1) (lCons (eTup (lCons (eTup (lCons (eVar 8) (lCons (eVar 12) (lCons (eVar 17) lNil)))) lNil)) (lCons (eVar 4) lNil))))) (eVar 2))) (eTup (lCons (eTup (lCons (eVar 8) (lCons (eVar 12) (lCons (eVar 17) lNil)))) lNil)) [17] (EQ2 ws base off n most m acc (V (nI k.1)) (V (nI k.2)) none none none none none none none none none none) = M.pure (.list ((((errs m).filter (okOne (beats ws k n) off n)).map fun e => [(k, e)]).map encBs)) := by
    rw [List.map_map]
    refine comp_ok (ds := (errs m).map .int) (seqS_list rfl) (comp_go PyData.int (okOne (beats ws k n) off n) (fun e => encBs [(k, e)]) (fun e => EQ2 ws base off n most m acc (V (nI k.1)) (V (nI k.2)) none none none none (V (.int e)) none none none none none) (errs m) fun e he => ⟨rfl, ?_, fun _ => tup e⟩) (by rw [sizeLine_eq, List.length_map]; exact Nat.le_trans (List.length_filter_le _ _) (by omega))
    refine of_ok (bin_ok (x := .list ((lenT ws base [(k, e)] n).map .int)) (y := tkL base off n) (len_ev h (fun x hx => by rw [List.mem_singleton.mp hx]; exact hk1) (by show 1 ≤ 2; omega) hn rfl rfl (tup e) rfl) rfl ?_)
    rw [eq_ints (c := okOne (beats ws k n) off n e = true)]
    · show some (PyData.bool (decide (okOne (beats ws k n) off n e = true))) = _
      cases okOne (beats ws k n) off n e <;> rfl
    · rw [map_range, okOne_iff]
      refine forall_congr' fun b => imp_congr_right fun hb => ?_
      rw [sm_one hb]
      omega
  unfold y__law_lots_3 sAddO
  show M.bind (eComp _ _ _ _ _ _) _ = _
  rw [cp, M.pure_bind]
  dsimp only
  have fl : (((errs m).filter (okOne (beats ws k n) off n)).map fun e => [(k, e)]).length ≤ 2 * m + 1 := by rw [List.length_map]; exact Nat.le_trans (List.length_filter_le _ _) el
  rw [if_pos ⟨by rw [sizeLine_eq, List.length_map, List.length_map]; omega, rfl⟩, ← List.map_append]
  rfl
theorem s7l_ok {ws : List W} (h : Tr ws) {base : Int} {off : Nat → Int} {n most m : Nat} (hn : n ≤ 13) (hm : 2 * m ≤ 1000) (ho : ∀ b, b < n → -(m : Int) ≤ off b ∧ off b ≤ m) :
    s__law_lots_7 (EQ2 ws base off n most (2 * m) [] none none none none none none none none none none none none) = M.pure (.nx (EQ2 ws base off n most (2 * m) (lots1 ws off n most) none none none none none none none none none none none none)) := by
  have tl := teeth_len h n
  have t1 : bOf (eBin dGt (eVar 3) (eC (.int 0))) (EQ2 ws base off n most (2 * m) [] none none none none none none none none none none none none) = M.pure (decide (0 < most)) := of_ok (bin_ok (x := nI most) (y := nI 0) rfl rfl gt_nat)
  unfold lots1
  by_cases hm0 : 0 < most
  · rw [decide_eq_true hm0] at t1
    rw [if_pos hm0]
    refine (if_t t1).trans ?_
    refine (for_ok (seqS_list (ds := (teeth ws n).map encK) rfl)).trans ?_
    refine (for_fold (b := y__law_lots_3) encK (fun acc : List Lot => EQ2 ws base off n most (2 * m) acc none none none none none none none none none none none none) (fun acc k => acc ++ (sing (beats ws k n) off n).toList.map fun e => [(k, e)]) (fun r acc => acc.length + r.length ≤ 100 ∧ ∀ k ∈ r, k ∈ teeth ws n) (teeth ws n) [] _ (fun k r acc hi => ?_) ⟨by rw [List.length_nil]; omega, fun _ hk => hk⟩ rfl).trans ?_
    · obtain ⟨hl, hk⟩ := hi
      rw [List.length_cons] at hl
      have hk0 := hk k List.mem_cons_self
      have u := y3l_ok h (base := base) (off := off) (most := most) (m := 2 * m) hn hm (acc := acc) (by omega) hk0
      rw [sing_eq (beats_ne hk0) beats_lt ho] at u
      refine ⟨_, _, rfl, u, rfl, ?_, fun x hx => hk x (List.mem_cons_of_mem _ hx)⟩
      have := sing_len (A := beats ws k n) (off := off) (n := n)
      rw [List.length_append, List.length_map]; omega
    · have go : ∀ (l : List K) (acc : List Lot), l.foldl (fun acc k => acc ++ (sing (beats ws k n) off n).toList.map fun e => [(k, e)]) acc = acc ++ l.flatMap fun k => (sing (beats ws k n) off n).toList.map fun e => [(k, e)] := fun l => by
        induction l with
        | nil => intro acc; simp
        | cons x l ih => intro acc; rw [List.foldl_cons, ih, List.flatMap_cons, List.append_assoc]
      rw [go, List.nil_append]; rfl
  · rw [decide_eq_false hm0] at t1
    rw [if_neg hm0]
    exact (if_f t1).trans rfl
end Lay.K02

set_option Elab.async false
set_option linter.all false
set_option maxRecDepth 100000
set_option maxHeartbeats 2000000
/-! k02: the law's own lots: two teeth; the whole -/
namespace Lay.K02
open PySem PySem.Spec PyProof.Rows L2 Lay Lay.K01

theorem lenT_one {ws : List W} {base e : Int} {k : K} {n : Nat} : lenT ws base [(k, e)] n = (List.range n).map fun b => base + (if b ∈ beats ws k n then e else 0) :=
  List.map_congr_left fun b hb => by rw [sm_one (List.mem_range.mp hb)]
abbrev indL (A : List Nat) (e : Int) (n : Nat) : List Int := (List.range n).map fun b => if b ∈ A then e else 0
theorem lenT_ind {ws : List W} {e : Int} {k : K} {n : Nat} : lenT ws 0 [(k, e)] n = indL (beats ws k n) e n := by
  rw [lenT_one]
  exact List.map_congr_left fun b _ => Int.zero_add _
theorem beats_self {ws : List W} {k : K} {n : Nat} : ((List.range n).filter fun b => decide (b ∈ beats ws k n)) = beats ws k n := by
  refine List.filter_congr fun b hb => ?_
  rw [Bool.eq_iff_iff, decide_eq_true_eq, mem_beats]
  exact ⟨fun z => z.2, fun z => ⟨List.mem_range.mp hb, z⟩⟩
theorem beats_eq {ws : List W} {k k2 : K} {n : Nat} (h : ∀ b, b < n → (b ∈ beats ws k n ↔ b ∈ beats ws k2 n)) : beats ws k n = beats ws k2 n := by
  rw [← beats_self (k := k), ← beats_self (k := k2)]
  exact List.filter_congr fun b hb => by rw [decide_eq_decide]; exact h b (List.mem_range.mp hb)
theorem ints_map (f : Nat → Int) {l : List Nat} : (l.map f).map PyData.int = l.map fun b => PyData.int (f b) := by rw [List.map_map]; rfl
theorem zipD_self {α : Type} {f g : α → D} : ∀ l : List α, zipD (l.map f) (l.map g) = l.map fun x => .tuple [f x, g x]
  | [] => rfl
  | x :: l => by
    rw [List.map_cons, List.map_cons, List.map_cons, ← zipD_self l]; rfl
theorem zipL_ok {a b : EX} {ρ : En} {xs ys : List D} (h1 : a ρ = M.pure (.list xs)) (h2 : b ρ = M.pure (.list ys)) : itZS a b ρ = M.pure (zipD xs ys) := by
  unfold itZS
  rw [h1, M.pure_bind, h2, M.pure_bind]; rfl
def lft (A : List Nat) (off : Nat → Int) (e : Int) (b : Nat) : Int := off b - (if b ∈ A then e else 0)
abbrev lftL (A : List Nat) (off : Nat → Int) (e : Int) (n : Nat) : List Int := (List.range n).map (lft A off e)
theorem ints_ix {f : Nat → Int} {n b : Nat} (hb : b < n) : dIx (.list (((List.range n).map f).map .int)) (nI b) = some (.int (f b)) := ixD_list (by rw [List.getElem?_map, List.getElem?_map, List.getElem?_range hb]; rfl)
noncomputable abbrev EQ3 (ws : List W) (base : Int) (off : Nat → Int) (n most m : Nat) (acc : List Lot) (i j : Nat) (a15 a16 a17 a18 a19 a20 a21 a22 : Option SV) : En := EQ2 ws base off n most m acc none none (V (nI i)) (V (nI j)) a15 a16 a17 a18 a19 a20 a21 a22
theorem ind_ev {ws : List W} (h : Tr ws) {e : Int} {k : K} (hk : k.1 < ws.length) {n : Nat} (hn : n ≤ 13) {ρ : En} {f g : EX} (e0 : getD ρ 0 = some (encT ws)) (h1 : f ρ = M.pure (encK k)) (h2 : g ρ = M.pure (.int e)) (e4 : getD ρ 4 = some (nI n)) :
    eCall m__law_lengths (lCons (eVar 0) (lCons (eC (.int 0)) (lCons (eTup (lCons (eBin dAdd f (eTup (lCons g lNil))) lNil)) (lCons (eVar 4) lNil)))) ρ = M.pure (.list ((indL (beats ws k n) e n).map .int)) := by
  rw [← lenT_ind]
  exact len_ev h (bs := [(k, e)]) (fun x hx => by rw [List.mem_singleton.mp hx]; exact hk) (by show 1 ≤ 2; omega) hn e0 rfl (tup_ok (xs := [encB (k, e)]) (one_ok (add_ev h1 h2)) (by show 1 ≤ 16777216; omega)) e4
theorem y4_ok {ws : List W} (h : Tr ws) {base : Int} {off : Nat → Int} {n most m : Nat} (hn : n ≤ 13) {acc : List Lot} (ha : acc.length ≤ 100000) {i j : Nat} {k k2 : K} (hk : k.1 < ws.length) (hk2 : k2.1 < ws.length) (hB : beats ws k2 n ≠ []) (e : Int) :
    ∃ a18 a19 a20 a21 a22, y__law_lots_4 (EQ3 ws base off n most m acc i j (V (encK k)) (V (encK k2)) (V (.int e)) none none none none none) = M.pure (.nx (EQ3 ws base off n most m (acc ++ if okTwo (beats ws k n) (beats ws k2 n) off n e = true then [[(k, e), (k2, secE (beats ws k n) (beats ws k2 n) off e)]] else []) i j (V (encK k)) (V (encK k2)) (V (.int e)) a18 a19 a20 a21 a22)) := by
  generalize hA' : beats ws k n = A
  generalize hB' : beats ws k2 n = B at hB
  have hBs : ((List.range n).filter fun b => decide (b ∈ B)) = B := by rw [← hB']; exact beats_self
  have hBl : ∀ b ∈ B, b < n := by rw [← hB']; exact beats_lt
  refine ⟨V (.list (offI off n)), V (.list ((indL A e n).map .int)), V (.list ((lftL A off e n).map .int)), V (.list ((indL B 1 n).map .int)), V (.int (secE A B off e)), ?_⟩
  unfold y__law_lots_4
  -- what is off
  have c18 : eComp (.n 23) (itS (eVar 2)) bYes (eBin dSub (eVar 23) (eVar 1)) [23] (EQ3 ws base off n most m acc i j (V (encK k)) (V (encK k2)) (V (.int e)) none none none none none) = M.pure (.list (offI off n)) := by
    refine comp_ok (ds := (tkI base off n).map .int) rfl ?_ (by rw [sizeLine_eq, List.length_map, List.length_range]; omega)
    have e := comp_go (ρ := EQ3 ws base off n most m acc i j (V (encK k)) (V (encK k2)) (V (.int e)) none none none none none) (tg := .n 23) (conds := bYes) (elt := eBin dSub (eVar 23) (eVar 1)) (vs := [23]) (fun b : Nat => PyData.int (base + off b)) (fun _ => true) (fun b => PyData.int (off b)) (fun b => setV (EQ3 ws base off n most m acc i j (V (encK k)) (V (encK k2)) (V (.int e)) none none none none none) 23 (.int (base + off b))) (List.range n) fun b _ => ⟨rfl, rfl, fun _ => bin_ok (x := .int (base + off b)) (y := .int base) rfl rfl (by show some (PyData.int (base + off b - base)) = _; rw [show base + off b - base = off b by omega])⟩
    rw [List.filter_eq_self.mpr (fun _ _ => rfl)] at e
    rw [List.map_map]
    exact e
  refine (seq_nx (ρ' := EQ3 ws base off n most m acc i j (V (encK k)) (V (encK k2)) (V (.int e)) (V (.list (offI off n))) none none none none) ((set_ok c18 (by show 18 < 26; omega)).trans rfl)).trans ?_
  have c19 := ind_ev h (e := e) hk hn (ρ := EQ3 ws base off n most m acc i j (V (encK k)) (V (encK k2)) (V (.int e)) (V (.list (offI off n))) none none none none) (f := eVar 15) (g := eVar 17) rfl rfl rfl rfl
  rw [hA'] at c19
  refine (seq_nx (ρ' := EQ3 ws base off n most m acc i j (V (encK k)) (V (encK k2)) (V (.int e)) (V (.list (offI off n))) (V (.list ((indL A e n).map .int))) none none none) ((set_ok c19 (by show 19 < 26; omega)).trans rfl)).trans ?_
  have c20 : eComp (.t ((.n 24) :: ((.n 22) :: []))) (itZS (eVar 18) (eVar 19)) bYes (eBin dSub (eVar 24) (eVar 22)) [24, 22] (EQ3 ws base off n most m acc i j (V (encK k)) (V (encK k2)) (V (.int e)) (V (.list (offI off n))) (V (.list ((indL A e n).map .int))) none none none) = M.pure (.list ((lftL A off e n).map .int)) := by
    refine comp_ok (ds := (List.range n).map fun b => .tuple [.int (off b), .int (if b ∈ A then e else 0)]) ((zipL_ok (xs := offI off n) (ys := (indL A e n).map .int) rfl rfl).trans (by rw [List.map_map, zipD_self]; rfl)) ?_ (by rw [sizeLine_eq, List.length_map, List.length_map, List.length_range]; omega)
    have e := comp_go (ρ := EQ3 ws base off n most m acc i j (V (encK k)) (V (encK k2)) (V (.int e)) (V (.list (offI off n))) (V (.list ((indL A e n).map .int))) none none none) (tg := .t ((.n 24) :: ((.n 22) :: []))) (conds := bYes) (elt := eBin dSub (eVar 24) (eVar 22)) (vs := [24, 22]) (fun b : Nat => PyData.tuple [.int (off b), .int (if b ∈ A then e else 0)]) (fun _ => true) (fun b => PyData.int (lft A off e b)) (fun b => setV (setV (EQ3 ws base off n most m acc i j (V (encK k)) (V (encK k2)) (V (.int e)) (V (.list (offI off n))) (V (.list ((indL A e n).map .int))) none none none) 24 (.int (off b))) 22 (.int (if b ∈ A then e else 0))) (List.range n) fun b _ => ⟨rfl, rfl, fun _ => rfl⟩
    rw [List.filter_eq_self.mpr (fun _ _ => rfl)] at e
    rw [ints_map (lft A off _)]
    exact e
  refine (seq_nx (ρ' := EQ3 ws base off n most m acc i j (V (encK k)) (V (encK k2)) (V (.int e)) (V (.list (offI off n))) (V (.list ((indL A e n).map .int))) (V (.list ((lftL A off e n).map .int))) none none) ((set_ok c20 (by show 20 < 26; omega)).trans rfl)).trans ?_
  have c21 := ind_ev h (e := 1) hk2 hn (ρ := EQ3 ws base off n most m acc i j (V (encK k)) (V (encK k2)) (V (.int e)) (V (.list (offI off n))) (V (.list ((indL A e n).map .int))) (V (.list ((lftL A off e n).map .int))) none none) (f := eVar 16) (g := eC (.int 1)) rfl rfl rfl rfl
  rw [hB'] at c21
  refine (seq_nx (ρ' := EQ3 ws base off n most m acc i j (V (encK k)) (V (encK k2)) (V (.int e)) (V (.list (offI off n))) (V (.list ((indL A e n).map .int))) (V (.list ((lftL A off e n).map .int))) (V (.list ((indL B 1 n).map .int))) none) ((set_ok c21 (by show 21 < 26; omega)).trans rfl)).trans ?_
  have c22 : eBin dIx (eComp (.n 7) (itR1 (eVar 4)) (bOf (eBin dEq (eBin dIx (eVar 21) (eVar 7)) (eC (.int 1)))) (eBin dIx (eVar 20) (eVar 7)) [7]) (eC (.int 0)) (EQ3 ws base off n most m acc i j (V (encK k)) (V (encK k2)) (V (.int e)) (V (.list (offI off n))) (V (.list ((indL A e n).map .int))) (V (.list ((lftL A off e n).map .int))) (V (.list ((indL B 1 n).map .int))) none) = M.pure (.int (secE A B off e)) := by
    have cc : eComp (.n 7) (itR1 (eVar 4)) (bOf (eBin dEq (eBin dIx (eVar 21) (eVar 7)) (eC (.int 1)))) (eBin dIx (eVar 20) (eVar 7)) [7] (EQ3 ws base off n most m acc i j (V (encK k)) (V (encK k2)) (V (.int e)) (V (.list (offI off n))) (V (.list ((indL A e n).map .int))) (V (.list ((lftL A off e n).map .int))) (V (.list ((indL B 1 n).map .int))) none) = M.pure (.list (B.map fun b => .int (lft A off e b))) := by
      have e := comp_go (ρ := EQ3 ws base off n most m acc i j (V (encK k)) (V (encK k2)) (V (.int e)) (V (.list (offI off n))) (V (.list ((indL A e n).map .int))) (V (.list ((lftL A off e n).map .int))) (V (.list ((indL B 1 n).map .int))) none) (tg := .n 7) (conds := bOf (eBin dEq (eBin dIx (eVar 21) (eVar 7)) (eC (.int 1)))) (elt := eBin dIx (eVar 20) (eVar 7)) (vs := [7]) (fun b : Nat => PyData.int (b : Nat)) (fun b => decide (b ∈ B)) (fun b => PyData.int (lft A off e b)) (fun b => setV (EQ3 ws base off n most m acc i j (V (encK k)) (V (encK k2)) (V (.int e)) (V (.list (offI off n))) (V (.list ((indL A e n).map .int))) (V (.list ((lftL A off e n).map .int))) (V (.list ((indL B 1 n).map .int))) none) 7 (nI b)) (List.range n) fun b hb => ⟨rfl, of_ok (bin_ok (x := .int (if b ∈ B then 1 else 0)) (y := .int 1) (bin_ok (x := .list ((indL B 1 n).map .int)) (y := nI b) rfl rfl (ints_ix (f := fun b => if b ∈ B then 1 else 0) (List.mem_range.mp hb))) rfl (by
          rw [eq_int]
          by_cases hb : b ∈ B
          · rw [if_pos hb, decide_eq_true hb]; rfl
          · rw [if_neg hb, decide_eq_false hb]; rfl)), fun _ => bin_ok (x := .list ((lftL A off e n).map .int)) (y := nI b) rfl rfl (ints_ix (f := lft A off e) (List.mem_range.mp hb))⟩
      rw [hBs] at e
      exact comp_ok (r1_ok (j := n) rfl (by omega)) e (by
        rw [sizeLine_eq, List.length_map]
        have := beats_len (ws := ws) (k := k2) (n := n)
        rw [hB'] at this
        omega)
    cases B with
    | nil => exact absurd rfl hB
    | cons b r => exact bin_ok (x := .list ((b :: r).map fun b => .int (lft A off e b))) (y := nI 0) cc rfl (ixD_list (i := 0) rfl)
  refine (seq_nx (ρ' := EQ3 ws base off n most m acc i j (V (encK k)) (V (encK k2)) (V (.int e)) (V (.list (offI off n))) (V (.list ((indL A e n).map .int))) (V (.list ((lftL A off e n).map .int))) (V (.list ((indL B 1 n).map .int))) (V (.int (secE A B off e)))) ((set_ok c22 (by show 22 < 26; omega)).trans rfl)).trans ?_
  generalize hs : secE A B off e = s
  have t : bAnd (bOf (eBin dNe (eVar 22) (eC (.int 0)))) (bOf (eBin dEq (eVar 20) (eComp (.n 25) (itS (eVar 21)) bYes (eBin dMulB (eVar 22) (eVar 25)) [25]))) (EQ3 ws base off n most m acc i j (V (encK k)) (V (encK k2)) (V (.int e)) (V (.list (offI off n))) (V (.list ((indL A e n).map .int))) (V (.list ((lftL A off e n).map .int))) (V (.list ((indL B 1 n).map .int))) (V (.int s))) = M.pure (okTwo A B off n e) := by
    unfold okTwo
    rw [hs]
    refine and_ok (of_ok (bin_ok (x := .int s) (y := .int 0) rfl rfl ne_int)) fun _ => of_ok (bin_ok (x := .list ((lftL A off e n).map .int)) (y := .list (((List.range n).map fun b => s * (if b ∈ B then 1 else 0)).map .int)) rfl ?_ ?_)
    · refine comp_ok (ds := (List.range n).map fun b => PyData.int (if b ∈ B then 1 else 0)) ((seqS_list (ds := (indL B 1 n).map .int) rfl).trans (by rw [ints_map fun b => if b ∈ B then 1 else 0])) ?_ (by rw [sizeLine_eq, List.length_map, List.length_map, List.length_range]; omega)
      have e := comp_go (ρ := EQ3 ws base off n most m acc i j (V (encK k)) (V (encK k2)) (V (.int e)) (V (.list (offI off n))) (V (.list ((indL A e n).map .int))) (V (.list ((lftL A off e n).map .int))) (V (.list ((indL B 1 n).map .int))) (V (.int s))) (tg := .n 25) (conds := bYes) (elt := eBin dMulB (eVar 22) (eVar 25)) (vs := [25]) (fun b : Nat => PyData.int (if b ∈ B then 1 else 0)) (fun _ => true) (fun b => PyData.int (s * (if b ∈ B then 1 else 0))) (fun b => setV (EQ3 ws base off n most m acc i j (V (encK k)) (V (encK k2)) (V (.int e)) (V (.list (offI off n))) (V (.list ((indL A e n).map .int))) (V (.list ((lftL A off e n).map .int))) (V (.list ((indL B 1 n).map .int))) (V (.int s))) 25 (.int (if b ∈ B then 1 else 0))) (List.range n) fun b _ => ⟨rfl, rfl, fun _ => bin_ok (x := .int s) (y := .int (if b ∈ B then 1 else 0)) rfl rfl (mul_int (.inr (by split <;> rfl)))⟩
      rw [List.filter_eq_self.mpr (fun _ _ => rfl)] at e
      rw [ints_map fun b => s * (if b ∈ B then 1 else 0)]
      exact e
    · rw [eq_ints (c := ((List.range n).all fun b => decide (off b - (if b ∈ A then e else 0) = if b ∈ B then s else 0)) = true)]
      · cases (List.range n).all fun b => decide (off b - (if b ∈ A then e else 0) = if b ∈ B then s else 0) <;> rfl
      · rw [map_range, all_range]
        refine forall_congr' fun b => imp_congr_right fun _ => ?_
        unfold lft
        by_cases hb : b ∈ B
        · rw [if_pos hb, if_pos hb, Int.mul_one]
        · rw [if_neg hb, if_neg hb, Int.mul_zero]
  cases hq : okTwo A B off n e with
  | false =>
    rw [hq] at t
    rw [if_neg Bool.false_ne_true, List.append_nil]
    exact (if_f t).trans rfl
  | true =>
    rw [hq] at t
    rw [if_pos rfl]
    refine (if_t t).trans ?_
    refine (app_ok (ds := acc.map encBs) (d := encBs [(k, e), (k2, s)]) rfl (tup_ok (xs := [encB (k, e), encB (k2, s)]) (cons_ok (add_ev rfl rfl) (one_ok (add_ev rfl rfl))) (by show 2 ≤ 16777216; omega)) (by rw [sizeLine_eq, List.length_map]; omega)).trans ?_
    show M.pure (Fl.nx (setO _ 11 (acc.map encBs ++ [encBs [(k, e), (k2, s)]]))) = _
    have : acc.map encBs ++ [encBs [(k, e), (k2, s)]] = (acc ++ [[(k, e), (k2, s)]]).map encBs := by rw [List.map_append]; rfl
    rw [this]; rfl
theorem teeth_ix {ws : List W} {n i : Nat} (h : i < (teeth ws n).length) : dIx (teethD ws n) (nI i) = some (encK (tk ws n i)) :=
  ixD_list (by rw [List.getElem?_map, tk, List.getD_eq_getElem?_getD, List.getElem?_eq_getElem h]; rfl)
theorem y5_ok {ws : List W} (h : Tr ws) {base : Int} {off : Nat → Int} {n most m : Nat} (hn : n ≤ 13) (hm : 2 * m ≤ 1000) (ho : ∀ b, b < n → -(m : Int) ≤ off b ∧ off b ≤ m) {acc : List Lot} (ha : acc.length ≤ 20000) {i j : Nat} (hi : i < (teeth ws n).length) (hj : j < (teeth ws n).length) :
    ∃ a15 a16 a17 a18 a19 a20 a21 a22, y__law_lots_5 (EQ3 ws base off n most (2 * m) acc i j none none none none none none none none) = M.pure (.nx (EQ3 ws base off n most (2 * m) (acc ++ pairP ws off n i j) i j a15 a16 a17 a18 a19 a20 a21 a22)) := by
  have mi := tk_mem hi
  have mj := tk_mem hj
  have ti := teeth_ix hi
  have tj := teeth_ix hj
  unfold pairP
  generalize tk ws n i = k at *
  generalize tk ws n j = k2 at *
  have ki := (mem_teeth.mp mi).1
  have kj := (mem_teeth.mp mj).1
  refine ⟨V (encK k), V (encK k2), none, none, none, none, none, none, ?_⟩
  unfold y__law_lots_5
  refine (seq_nx (ρ' := EQ3 ws base off n most (2 * m) acc i j (V (encK k)) (V (encK k2)) none none none none none none) ((par_ok (x := encK k) (y := encK k2) (bin_ok (x := teethD ws n) (y := nI i) rfl rfl ti) (bin_ok (x := teethD ws n) (y := nI j) rfl rfl tj) (by show 15 < 26; omega) (by show 16 < 26; omega)).trans rfl)).trans ?_
  have t : bOf (eBin dNe (eCall m__law_lengths (lCons (eVar 0) (lCons (eC (.int 0)) (lCons (eTup (lCons (eBin dAdd (eVar 15) (eTup (lCons (eC (.int 1)) lNil))) lNil)) (lCons (eVar 4) lNil))))) (eCall m__law_lengths (lCons (eVar 0) (lCons (eC (.int 0)) (lCons (eTup (lCons (eBin dAdd (eVar 16) (eTup (lCons (eC (.int 1)) lNil))) lNil)) (lCons (eVar 4) lNil)))))) (EQ3 ws base off n most (2 * m) acc i j (V (encK k)) (V (encK k2)) none none none none none none) = M.pure (!((List.range n).all fun b => decide (b ∈ beats ws k n ↔ b ∈ beats ws k2 n))) := by
    refine of_ok (bin_ok (ind_ev h (e := 1) ki hn (f := eVar 15) (g := eC (.int 1)) rfl rfl rfl rfl) (ind_ev h (e := 1) kj hn (f := eVar 16) (g := eC (.int 1)) rfl rfl rfl rfl) ?_)
    rw [ne_ints (c := ((List.range n).all fun b => decide (b ∈ beats ws k n ↔ b ∈ beats ws k2 n)) = true)]
    · cases (List.range n).all fun b => decide (b ∈ beats ws k n ↔ b ∈ beats ws k2 n) <;> rfl
    · rw [map_range, all_range]
      refine forall_congr' fun b => imp_congr_right fun _ => ?_
      by_cases h1 : b ∈ beats ws k n <;> by_cases h2 : b ∈ beats ws k2 n <;> simp [h1, h2]
  by_cases hq : ((List.range n).all fun b => decide (b ∈ beats ws k n ↔ b ∈ beats ws k2 n)) = true
  · rw [hq] at t
    have := beats_eq (all_range.mp hq)
    rw [this, dbl_same]
    show _ = M.pure (Fl.nx (EQ3 ws base off n most (2 * m) (acc ++ []) i j (V (encK k)) (V (encK k2)) none none none none none none))
    rw [List.append_nil]
    exact (if_f t).trans rfl
  · rw [Bool.eq_false_iff.mpr hq] at t
    refine (if_t t).trans ?_
    have ne : ∃ b, b < n ∧ ¬ (b ∈ beats ws k n ↔ b ∈ beats ws k2 n) := by
      refine Classical.byContradiction fun z => hq (all_range.mpr fun b hb => Classical.byContradiction fun y => z ⟨b, hb, y⟩)
    rw [← dbl_eq (beats_ne mi) (beats_ne mj) beats_lt beats_lt ho ne, List.map_map]
    refine (for_ok (seqS_list (ds := (errs (2 * m)).map .int) rfl)).trans ?_
    have el := errs_len (2 * m)
    refine (for_fold (b := y__law_lots_4) PyData.int (fun acc : List Lot => EQ3 ws base off n most (2 * m) acc i j (V (encK k)) (V (encK k2)) none none none none none none) (fun acc e => acc ++ if okTwo (beats ws k n) (beats ws k2 n) off n e = true then [[(k, e), (k2, secE (beats ws k n) (beats ws k2 n) off e)]] else []) (fun r acc => acc.length + r.length ≤ 30000) _ acc _ (fun e r acc hi' => ?_) (by omega) rfl).trans ?_
    · rw [List.length_cons] at hi'
      obtain ⟨a18, a19, a20, a21, a22, u⟩ := y4_ok h (base := base) (off := off) (most := most) (m := 2 * m) hn (acc := acc) (by omega) (i := i) (j := j) ki kj (beats_ne mj) e
      refine ⟨_, _, rfl, u, rfl, ?_⟩
      rw [List.length_append]
      split
      · rw [List.length_singleton]; omega
      · rw [List.length_nil]; omega
    · have go : ∀ (l : List Int) (acc : List Lot), l.foldl (fun acc e => acc ++ if okTwo (beats ws k n) (beats ws k2 n) off n e = true then [[(k, e), (k2, secE (beats ws k n) (beats ws k2 n) off e)]] else []) acc = acc ++ (l.filter (okTwo (beats ws k n) (beats ws k2 n) off n)).map ((fun x : Int × Int => [(k, x.1), (k2, x.2)]) ∘ fun e => (e, secE (beats ws k n) (beats ws k2 n) off e)) := fun l => by
        induction l with
        | nil => intro acc; simp
        | cons x l ih =>
          intro acc
          rw [List.foldl_cons, ih]
          cases hx : okTwo (beats ws k n) (beats ws k2 n) off n x with
          | true => rw [List.filter_cons_of_pos hx, List.map_cons, if_pos rfl, List.append_assoc]; rfl
          | false => rw [List.filter_cons_of_neg (by rw [hx]; exact Bool.false_ne_true), if_neg Bool.false_ne_true, List.append_nil]
      rw [go]
theorem y6_ok {ws : List W} (h : Tr ws) {base : Int} {off : Nat → Int} {n most m : Nat} (hn : n ≤ 13) (hm : 2 * m ≤ 1000) (ho : ∀ b, b < n → -(m : Int) ≤ off b ∧ off b ≤ m) {acc : List Lot} (ha : acc.length ≤ 10000) {i : Nat} (hi : i < (teeth ws n).length) :
    y__law_lots_6 (EQ2 ws base off n most (2 * m) acc none none (V (nI i)) none none none none none none none none none) = M.pure (.nx (EQ2 ws base off n most (2 * m) (acc ++ pairsI ws off n i) none none (V (nI i)) none none none none none none none none none)) := by
  have tl := teeth_len h n
  unfold y__law_lots_6
  refine (for_ok (r2_ok (a := i + 1) (n := (teeth ws n).length) (bin_ok (x := nI i) (y := nI 1) rfl rfl add_nat) (len_L rfl) (by omega) (by omega))).trans ?_
  refine (for_fold (b := y__law_lots_5) (fun j : Nat => nI (i + 1 + j)) (fun acc : List Lot => EQ2 ws base off n most (2 * m) acc none none (V (nI i)) none none none none none none none none none) (fun acc j => acc ++ pairP ws off n i (i + 1 + j)) (fun r acc => acc.length + r.length ≤ 11000 ∧ ∀ j ∈ r, j < (teeth ws n).length - (i + 1)) _ acc _ (fun j r acc hi' => ?_) ⟨by rw [List.length_range]; omega, fun j hj => List.mem_range.mp hj⟩ rfl).trans ?_
  · obtain ⟨hl, hj⟩ := hi'
    rw [List.length_cons] at hl
    have hj0 := hj j List.mem_cons_self
    obtain ⟨a15, a16, a17, a18, a19, a20, a21, a22, u⟩ := y5_ok h (base := base) (most := most) hn hm ho (acc := acc) (by omega) hi (show i + 1 + j < (teeth ws n).length by omega)
    refine ⟨_, _, rfl, u, rfl, ?_, fun x hx => hj x (List.mem_cons_of_mem _ hx)⟩
    have := pairP_len (ws := ws) (off := off) (n := n) (i := i) (j := i + 1 + j)
    rw [List.length_append]; omega
  · have go : ∀ (l : List Nat) (acc : List Lot), l.foldl (fun acc j => acc ++ pairP ws off n i (i + 1 + j)) acc = acc ++ l.flatMap fun j => pairP ws off n i (i + 1 + j) := fun l => by
      induction l with
      | nil => intro acc; simp
      | cons x l ih => intro acc; rw [List.foldl_cons, ih, List.flatMap_cons, List.append_assoc]
    rw [go]; rfl
theorem s8l_ok {ws : List W} (h : Tr ws) {base : Int} {off : Nat → Int} {n most m : Nat} (hn : n ≤ 13) (hm : 2 * m ≤ 1000) (ho : ∀ b, b < n → -(m : Int) ≤ off b ∧ off b ≤ m) (hl : (lots1 ws off n most).length ≤ 1000) :
    s__law_lots_8 (EQ2 ws base off n most (2 * m) (lots1 ws off n most) none none none none none none none none none none none none) = M.pure (.nx (EQ2 ws base off n most (2 * m) (lots2 ws off n most) none none none none none none none none none none none none)) := by
  have tl := teeth_len h n
  have t1 : bAnd (bOf (eBin dGt (eVar 3) (eC (.int 1)))) (bOf (eBin dEq (eOwnLen 11) (eC (.int 0)))) (EQ2 ws base off n most (2 * m) (lots1 ws off n most) none none none none none none none none none none none none) = M.pure (decide (1 < most) && decide ((lots1 ws off n most).length = 0)) :=
    and_ok (of_ok (bin_ok (x := nI most) (y := nI 1) rfl rfl gt_nat)) fun _ => of_ok (bin_ok (x := nI (lots1 ws off n most).length) (y := nI 0) ((ownLen_ok (ds := (lots1 ws off n most).map encBs) rfl).trans (by rw [List.length_map])) rfl eq_nat)
  unfold lots2
  by_cases hm1 : 1 < most ∧ (lots1 ws off n most).length = 0
  · rw [decide_eq_true hm1.1, decide_eq_true hm1.2] at t1
    rw [if_pos hm1]
    refine (if_t t1).trans ?_
    refine (for_ok (r1_ok (j := (teeth ws n).length) (len_L rfl) (by omega))).trans ?_
    generalize lots1 ws off n most = l1 at hl
    refine (for_fold (b := y__law_lots_6) (fun i : Nat => PyData.int (i : Nat)) (fun acc : List Lot => EQ2 ws base off n most (2 * m) acc none none none none none none none none none none none none) (fun acc i => acc ++ pairsI ws off n i) (fun r acc => acc.length + r.length * 26 ≤ 9000 ∧ ∀ i ∈ r, i < (teeth ws n).length) _ l1 _ (fun i r acc hi' => ?_) ⟨by rw [List.length_range]; omega, fun i hi => List.mem_range.mp hi⟩ rfl).trans ?_
    · obtain ⟨hl', hi⟩ := hi'
      rw [List.length_cons] at hl'
      have pl := pairsI_len (ws := ws) (off := off) (n := n) (i := i)
      exact ⟨EQ2 ws base off n most (2 * m) acc none none (V (nI i)) none none none none none none none none none, _, rfl, y6_ok h hn hm ho (by omega) (hi i List.mem_cons_self), rfl, by rw [List.length_append]; omega, fun x hx => hi x (List.mem_cons_of_mem _ hx)⟩
    · have go : ∀ (l : List Nat) (acc : List Lot), l.foldl (fun acc i => acc ++ pairsI ws off n i) acc = acc ++ l.flatMap fun i => pairsI ws off n i := fun l => by
        induction l with
        | nil => intro acc; simp
        | cons x l ih => intro acc; rw [List.foldl_cons, ih, List.flatMap_cons, List.append_assoc]
      rw [go]; rfl
  · have e : (decide (1 < most) && decide ((lots1 ws off n most).length = 0)) = false := by
      rw [← Bool.not_eq_true]; simpa using hm1
    rw [e] at t1
    rw [if_neg hm1, List.append_nil]
    exact (if_f t1).trans rfl
theorem law_lots_eq {ws : List W} (h : Tr ws) {base : Int} {off : Nat → Int} {n most : Nat} (t : TOk base off n) : m__law_lots [encT ws, .int base, tkL base off n, nI most] = M.pure (.list ((lots ws off n most).map encBs)) := by
  have hn := t.n1
  refine mkF_rt ?_
  refine (seq_nx (ρ' := EQ ws base off n most none none none none none none none none none none none none none none none none none none) ((set_ok ((len_L (f := PyData.int) (ws := tkI base off n) rfl).trans (by rw [List.length_map, List.length_range])) (by show 4 < 26; omega)).trans rfl)).trans ?_
  have t2 : bOf (eBin dEq (eCall m__law_lengths (lCons (eVar 0) (lCons (eVar 1) (lCons (eTup lNil) (lCons (eVar 4) lNil))))) (eVar 2)) (EQ ws base off n most none none none none none none none none none none none none none none none none none none) = M.pure ((List.range n).all fun b => decide (off b = 0)) := by
    refine of_ok (bin_ok (x := .list ((lenT ws base [] n).map .int)) (y := tkL base off n) (len_ev h (bs := []) (fun x hx => by cases hx) (by show 0 ≤ 2; omega) hn rfl rfl (tup_ok (xs := []) rfl (by show 0 ≤ 16777216; omega)) rfl) rfl ?_)
    rw [eq_ints (c := ((List.range n).all fun b => decide (off b = 0)) = true)]
    · cases (List.range n).all fun b => decide (off b = 0) <;> rfl
    · rw [map_range, all_range]
      refine forall_congr' fun b => imp_congr_right fun _ => ?_
      rw [sm_nil]
      omega
  unfold lots
  by_cases h0 : ((List.range n).all fun b => decide (off b = 0)) = true
  · rw [h0] at t2
    rw [if_pos h0]
    exact seq_rt ((if_t t2).trans (ret_ok (lst_ok (xs := [.tuple []]) (one_ok (tup_ok (xs := []) rfl (by show 0 ≤ 16777216; omega))) (by show 1 ≤ 16777216; omega))))
  · rw [Bool.eq_false_iff.mpr h0] at t2
    rw [if_neg h0]
    refine (seq_nx ((if_f t2).trans rfl)).trans ?_
    have n0 : 0 < n := by
      rcases Nat.eq_zero_or_pos n with z | z
      · subst z; exact absurd rfl h0
      · exact z
    -- how far off
    obtain ⟨M', em, hM⟩ := max_ints (l := (List.range n).map fun b => if off b < 0 then -off b else off b) (fun z => by
      have := congrArg List.length z
      rw [List.length_map, List.length_range] at this
      simp at this
      omega)
    have hM2 : ∀ b, b < n → (if off b < 0 then -off b else off b) ≤ M' := fun b hb => hM _ (List.mem_map.mpr ⟨b, List.mem_range.mpr hb, rfl⟩)
    have M0 : 0 ≤ M' := by have := hM2 0 n0; split at this <;> omega
    have M7 : M' ≤ 7 := by
      have g := maxI_ge
      have : ∃ b, b < n ∧ M' = (if off b < 0 then -off b else off b) := by
        obtain ⟨c, rfl⟩ : ∃ c, n = c + 1 := ⟨n - 1, by omega⟩
        rw [List.range_succ_eq_map, List.map_cons, List.map_cons] at em
        unfold dAlt at em
        have e2 : dMaxL [.list (PyData.int (if off 0 < 0 then -off 0 else off 0) :: ((List.map Nat.succ (List.range c)).map fun b => if off b < 0 then -off b else off b).map .int)] = some (.int ((((List.map Nat.succ (List.range c)).map fun b => if off b < 0 then -off b else off b)).foldl (fun a b => if b > a then b else a) (if off 0 < 0 then -off 0 else off 0))) := by
          show (intsD (((if off 0 < 0 then -off 0 else off 0) :: (List.map Nat.succ (List.range c)).map fun b => if off b < 0 then -off b else off b).map .int)).bind _ = _
          rw [intsD_map]; rfl
        rw [e2] at em
        have em := int_inj _ _ (Option.some.inj em)
        have g2 := (g ((List.map Nat.succ (List.range c)).map fun b => if off b < 0 then -off b else off b) (if off 0 < 0 then -off 0 else off 0)).2
        rw [em] at g2
        rcases List.mem_cons.mp g2 with z | z
        · exact ⟨0, by omega, z⟩
        · obtain ⟨b, hb, e⟩ := List.mem_map.mp z
          obtain ⟨b', hb', rfl⟩ := List.mem_map.mp hb
          have := List.mem_range.mp hb'
          exact ⟨b' + 1, by omega, e.symm⟩
      obtain ⟨b, hb, e⟩ := this
      have := t.o b hb
      split at e <;> omega
    obtain ⟨m, rfl⟩ := Int.eq_ofNat_of_zero_le M0
    have ho : ∀ b, b < n → -(m : Int) ≤ off b ∧ off b ≤ m := fun b hb => by have := hM2 b hb; split at this <;> omega
    have wd : eBin dMulB (eC (.int 2)) (eCallB (dAlt dMaxL dMaxT) (lCons (eComp (.n 23) (itS (eVar 2)) bYes (eCallB dAbs (lCons (eBin dSub (eVar 23) (eVar 1)) lNil)) [23]) lNil)) (EQ ws base off n most none none none none none none none none none none none none none none none none none none) = M.pure (nI (2 * m)) := by
      refine bin_ok (x := nI 2) (y := nI m) rfl (callB_ok (ds := [.list (((List.range n).map fun b => if off b < 0 then -off b else off b).map .int)]) (one_ok ?_) em) (mul_nat (by omega))
      refine comp_ok (ds := (tkI base off n).map .int) rfl ?_ (by rw [sizeLine_eq, List.length_map, List.length_map, List.length_range]; omega)
      have e := comp_go (ρ := EQ ws base off n most none none none none none none none none none none none none none none none none none none) (tg := .n 23) (conds := bYes) (elt := eCallB dAbs (lCons (eBin dSub (eVar 23) (eVar 1)) lNil)) (vs := [23]) (fun b : Nat => PyData.int (base + off b)) (fun _ => true) (fun b => PyData.int (if off b < 0 then -off b else off b)) (fun b => setV (EQ ws base off n most none none none none none none none none none none none none none none none none none none) 23 (.int (base + off b))) (List.range n) fun b _ => ⟨rfl, rfl, fun _ => callB_ok (ds := [.int (off b)]) (one_ok (bin_ok (x := .int (base + off b)) (y := .int base) rfl rfl (by show some (PyData.int (base + off b - base)) = _; rw [show base + off b - base = off b by omega]))) rfl⟩
      rw [List.filter_eq_self.mpr (fun _ _ => rfl)] at e
      rw [List.map_map, List.map_map]
      exact e
    refine (seq_nx (ρ' := EQ ws base off n most (rowT []) (V (nI (2 * m))) none none none none none none none none none none none none none none none none) ?_).trans ?_
    · show sParT 5 6 _ _ = _
      unfold sParT
      rw [wd, M.pure_bind]
      rfl
    refine (seq_nx (s4_ok h hn)).trans ?_
    refine (seq_nx (s5_ok (by omega))).trans ?_
    refine (seq_nx (ρ' := EQ2 ws base off n most (2 * m) [] none none none none none none none none none none none none) ((own_ok (by show 11 < 26; omega)).trans rfl)).trans ?_
    refine (seq_nx (s7l_ok h hn (by omega) ho)).trans ?_
    refine (seq_nx (s8l_ok h hn (by omega) ho (by have := lots1_len h (off := off) (most := most) hn; omega))).trans ?_
    exact ret_ok (e := eVar 11) (d := .list ((lots2 ws off n most).map encBs)) (ρ := EQ ws base off n most (rowT (keys ws n)) (V (nI (2 * m))) none none (V (teethD ws n)) (V (errD (2 * m))) (V (.list ((lots2 ws off n most).map encBs))) none none none none none none none none none none none) rfl
end Lay.K02

set_option Elab.async false
set_option linter.all false
set_option maxRecDepth 100000
set_option maxHeartbeats 2000000
/-! k02: the cycle; the sum of errors over a round -/
namespace Lay.K02
open PySem PySem.Spec PyProof.Rows L2 Lay Lay.K01

theorem nat_ints (l : List Nat) : l.map nI = (l.map fun n : Nat => (n : Int)).map PyData.int := by rw [List.map_map]; rfl
theorem max_nats {l : List Nat} (h : l ≠ []) : ∃ m : Nat, dAlt dMaxL dMaxT [encP l] = some (nI m) ∧ (m = 0 ↔ ∀ p ∈ l, p = 0) := by
  cases l with
  | nil => exact absurd rfl h
  | cons p l =>
    have g := maxI_ge (l.map fun p : Nat => (p : Int)) (p : Int)
    have e : dAlt dMaxL dMaxT [encP (p :: l)] = some (.int ((l.map fun p : Nat => (p : Int)).foldl (fun a b => if b > a then b else a) (p : Int))) := by
      rw [encP, nat_ints]
      unfold dAlt
      have e1 : dMaxL [.tuple (((p :: l).map fun p : Nat => (p : Int)).map PyData.int)] = none := rfl
      rw [e1]
      show (intsD (((p :: l).map fun p : Nat => (p : Int)).map PyData.int)).bind _ = _
      rw [intsD_map]; rfl
    generalize (l.map fun p : Nat => (p : Int)).foldl (fun a b => if b > a then b else a) (p : Int) = m at e g
    obtain ⟨g1, g2⟩ := g
    have g1' : ∀ q ∈ p :: l, (q : Int) ≤ m := fun q hq => g1 _ (by
      rw [← List.map_cons (f := fun p : Nat => (p : Int))]
      exact List.mem_map.mpr ⟨q, hq, rfl⟩)
    have g2' : ∃ q ∈ p :: l, m = (q : Int) := by
      rw [← List.map_cons (f := fun p : Nat => (p : Int))] at g2
      obtain ⟨q, hq, e⟩ := List.mem_map.mp g2
      exact ⟨q, hq, e.symm⟩
    obtain ⟨q, hq, rfl⟩ := g2'
    refine ⟨q, e, fun z x hx => ?_, fun z => z q hq⟩
    have := g1' x hx
    omega
theorem law_cycle_eq {ws : List W} (h : Tr ws) : m__law_cycle [encT ws] = M.pure (nI (cyc ws)) := by
  have hl := h.len
  have hpos := h.pos
  have c0 := cyc_pos h.one
  have c1 := cyc_le h.one (by omega)
  refine mkF_rt ?_
  refine (seq_nx (ρ' := [V (encT ws), V (nI 1), none]) rfl).trans ?_
  have tst : ∀ b i : Nat, bOf (eBin dEq (eCallB (dAlt dMaxL dMaxT) (lCons (eCall m__law_places (lCons (eVar 0) (lCons (eVar 1) lNil))) lNil)) (eC (.int 0))) [V (encT ws), V (nI b), V (nI i)] = M.pure (decide (cyc ws ∣ b)) := fun b i => by
    obtain ⟨m, e, hm⟩ := max_nats (l := vals ws b) (fun z => by
      have := congrArg List.length z
      unfold vals at this
      rw [List.length_map] at this
      simp at this
      rw [this] at hpos
      simp at hpos)
    refine of_ok (bin_ok (x := nI m) (y := nI 0) (callB_ok (ds := [encP (vals ws b)]) (one_ok ((call_ok (ds := [encT ws, nI b]) rfl).trans (law_places_eq h b))) e) rfl (eq_nat.trans ?_))
    have : m = 0 ↔ cyc ws ∣ b := by
      rw [hm, cyc_dvd h.one]
      unfold vals
      constructor
      · intro k w hw
        exact (val_zero (h.one w hw) b).mp (k _ (List.mem_map.mpr ⟨w, hw, rfl⟩))
      · intro k p hp
        obtain ⟨w, hw, rfl⟩ := List.mem_map.mp hp
        exact (val_zero (h.one w hw) b).mpr (k w hw)
    rw [decide_eq_decide.mpr this]
  have c2 : s__law_cycle_2 [V (encT ws), V (nI 1), none] = M.pure (.nx [V (encT ws), V (nI (cyc ws)), none]) := by
    unfold s__law_cycle_2
    refine (for_ok (r1_ok (j := 100000) rfl (by omega))).trans ?_
    obtain ⟨n, s', e, hn, hs, hf, ht⟩ := for_brk (vs := [2]) (tg := .n 2) (b := y__law_cycle_1) (fun i : Nat => PyData.int (i : Nat)) (fun b : Nat => [V (encT ws), V (nI b), none]) (fun b _ => b + 1) (fun b => decide (cyc ws ∣ b)) (fun _ _ => True) (List.range 100000) 1 [V (encT ws), V (nI 1), none] (fun i r b _ => by
      refine ⟨[V (encT ws), V (nI b), V (nI i)], rfl, ?_⟩
      have t := tst b i
      unfold y__law_cycle_1
      by_cases hq : cyc ws ∣ b
      · rw [decide_eq_true hq] at t ⊢
        exact .inl ⟨rfl, [V (encT ws), V (nI b), V (nI i)], by
          unfold sSeq
          rw [if_t t]; rfl, rfl⟩
      · rw [decide_eq_false hq] at t ⊢
        exact .inr ⟨rfl, [V (encT ws), V (nI (b + 1)), V (nI i)], (seq_nx ((if_f t).trans rfl)).trans ((set_ok (bin_ok (x := nI b) (y := nI 1) rfl rfl add_nat) (by show 1 < 3; omega)).trans rfl), rfl, trivial⟩) trivial rfl
    have val : ∀ m, m ≤ n → ((List.range 100000).take m).foldl (fun b _ => b + 1) 1 = 1 + m := fun m hm => by
      rw [foldl_count, List.length_take, List.length_range]
      rw [List.length_range] at hn
      omega
    rw [List.length_range] at hn ht
    have n1 : n ≤ cyc ws - 1 := by
      rcases Nat.lt_or_ge (cyc ws - 1) n with lt | ge
      · have := hf (cyc ws - 1) lt
        rw [val _ (by omega)] at this
        have := of_decide_eq_false this
        exact absurd (show cyc ws ∣ 1 + (cyc ws - 1) by rw [show 1 + (cyc ws - 1) = cyc ws by omega]; exact Nat.dvd_refl _) this
      · exact ge
    have n2 := of_decide_eq_true (ht (by omega))
    rw [hs, val n (Nat.le_refl _)] at n2
    have n3 := Nat.le_of_dvd (by omega) n2
    have n4 : s' = cyc ws := by rw [hs, val n (Nat.le_refl _)]; omega
    rw [n4] at e
    exact e
  refine (seq_nx c2).trans ?_
  rfl
/-! ### counting -/
def cnt (w : W) (t N : Nat) : Nat := ((List.range N).filter fun b => decide (val w b = t)).length
theorem cnt_add {w : W} (k : WOk w) (t N : Nat) : cnt w t (turn w + N) = cnt w t (turn w) + cnt w t N := by
  unfold cnt
  rw [List.range_add, List.filter_append, List.length_append, List.filter_map, List.length_map]
  congr 2
  refine List.filter_congr fun b _ => ?_
  show decide (val w (turn w + b) = t) = _
  have : val w (turn w + b) = val w b := by
    rw [← val_mod k (turn w + b), Nat.add_mod_left, val_mod k]
  rw [this]
theorem cnt_mul {w : W} (k : WOk w) (t : Nat) : ∀ c : Nat, cnt w t (c * turn w) = c * cnt w t (turn w)
  | 0 => by rw [Nat.zero_mul, Nat.zero_mul]; rfl
  | c + 1 => by
    rw [Nat.succ_mul, Nat.add_comm, cnt_add k, cnt_mul k t c, Nat.succ_mul, Nat.add_comm]
theorem cnt_turn {w : W} (k : WOk w) {t : Nat} (ht : t < w.1) : cnt w t (turn w) = if t % (w.1 / turn w) = 0 then 1 else 0 := by
  have := wheels (p := fun t s => (List.range t).all fun u => decide (cnt (t, s) u (turn (t, s)) = if u % (t / turn (t, s)) = 0 then 1 else 0)) (by decide +kernel) k
  exact of_decide_eq_true (List.all_eq_true.mp this t (List.mem_range.mpr ht))
theorem beats_cnt {ws : List W} {k : K} {N : Nat} : (beats ws k N).length = cnt (ws.getD k.1 (2, 1)) k.2 N := rfl
def wh (ws : List W) (x : Bd) : W := ws.getD x.1.1 (2, 1)
theorem wh_mem {ws : List W} {x : Bd} (h : x.1.1 < ws.length) : wh ws x ∈ ws := by
  unfold wh
  rw [List.getD_eq_getElem?_getD, List.getElem?_eq_getElem h]; exact List.getElem_mem h
def part1 (ws : List W) (x : Bd) : Int := if x.1.2 % ((wh ws x).1 / turn (wh ws x)) = 0 then x.2 * ((cyc ws / turn (wh ws x) : Nat) : Int) else 0
theorem beats_cyc {ws : List W} (h : Tr ws) {x : Bd} (h1 : x.1.1 < ws.length) (h2 : x.1.2 < (wh ws x).1) : x.2 * ((beats ws x.1 (cyc ws)).length : Int) = part1 ws x := by
  have hw := wh_mem h1
  have k := h.one _ hw
  obtain ⟨c, hc⟩ := turn_cyc h.one hw
  have tp := turn_pos k
  have e : (beats ws x.1 (cyc ws)).length = c * (if x.1.2 % ((wh ws x).1 / turn (wh ws x)) = 0 then 1 else 0) := by
    rw [beats_cnt, hc, Nat.mul_comm]
    exact (cnt_mul k _ c).trans (by rw [cnt_turn k h2])
  have e2 : cyc ws / turn (wh ws x) = c := by rw [hc]; exact Nat.mul_div_cancel_left _ tp.1
  rw [e]
  unfold part1
  rw [e2]
  split
  · rw [Nat.mul_one]
  · rw [Nat.mul_zero]; simp
theorem sm_cons {ws : List W} {x : Bd} {bs : List Bd} {b : Nat} : sm ws (x :: bs) b = (if works ws x.1 b = true then x.2 else 0) + sm ws bs b := by
  unfold sm
  by_cases h : works ws x.1 b = true
  · rw [if_pos h, List.filter_cons_of_pos (by exact h), List.map_cons, List.sum_cons]
  · rw [if_neg h, List.filter_cons_of_neg (by exact h), Int.zero_add]
theorem len_sum {ws : List W} {n : Nat} : ∀ bs : List Bd, (bs.map fun x => x.2 * ((beats ws x.1 (n + 1)).length : Int)).sum = (bs.map fun x => x.2 * ((beats ws x.1 n).length : Int)).sum + sm ws bs n
  | [] => rfl
  | x :: bs => by
    rw [List.map_cons, List.map_cons, List.sum_cons, List.sum_cons, len_sum bs, sm_cons, beats_succ, List.length_append]
    have : x.2 * (((beats ws x.1 n).length + (if works ws x.1 n = true then [n] else []).length : Nat) : Int) = x.2 * ((beats ws x.1 n).length : Int) + (if works ws x.1 n = true then x.2 else 0) := by
      rw [Int.natCast_add, Int.mul_add]
      split
      · simp
      · simp
    rw [this]
    omega
theorem sm_sum {ws : List W} {bs : List Bd} : ∀ n : Nat, ((List.range n).map fun b => sm ws bs b).sum = (bs.map fun x => x.2 * ((beats ws x.1 n).length : Int)).sum
  | 0 => by
    have : (bs.map fun x : Bd => x.2 * ((beats ws x.1 0).length : Int)) = bs.map fun _ => 0 := List.map_congr_left fun x _ => by
      show x.2 * ((0 : Nat) : Int) = 0
      simp
    rw [this]
    have z : ∀ l : List Bd, (l.map fun _ => (0 : Int)).sum = 0 := fun l => by
      induction l with
      | nil => rfl
      | cons x l ih => rw [List.map_cons, List.sum_cons, ih]; rfl
    rw [z]; rfl
  | n + 1 => by
    rw [List.range_succ, List.map_append, List.sum_append, sm_sum n, len_sum]
    simp
def rsum (ws : List W) (bs : List Bd) : Int := (bs.map (part1 ws)).sum
theorem round_sum {ws : List W} (h : Tr ws) {bs : List Bd} (hb : BOk ws bs) : (lenT ws 0 bs (cyc ws)).sum = rsum ws bs := by
  have e : lenT ws 0 bs (cyc ws) = (List.range (cyc ws)).map fun b => sm ws bs b := List.map_congr_left fun b _ => Int.zero_add _
  rw [e, sm_sum]
  unfold rsum
  congr 1
  exact List.map_congr_left fun x hx => beats_cyc h (hb.one x hx).1 (hb.one x hx).2.1
/-! ### round_error -/
theorem great_nat {a b : Nat} (h : b < 1000000) : m_greatest [nI a, nI b] = M.pure (nI (Nat.gcd a b)) := by
  refine mkF_rt ?_
  exact (seq_nx (com_wh 2000 a b 4096 (Nat.lt_trans h (small2000 (b := 1000000) (by omega))) (by omega))).trans rfl
theorem gcd_le9 {w : W} (k : WOk w) : 0 < Nat.gcd w.1 w.2 ∧ Nat.gcd w.1 w.2 ≤ 9 := by
  have h1 := k.1
  have h2 := k.2.1
  exact ⟨Nat.gcd_pos_of_pos_left _ (by omega), Nat.le_trans (Nat.gcd_le_left _ (by omega)) h2⟩
theorem turn_ev {w : W} (k : WOk w) {ρ : En} {i j : Nat} (e1 : getD ρ i = some (nI w.1)) (e2 : getD ρ j = some (nI w.2)) : eBin dDiv (eVar i) (eCall m_greatest (lCons (eVar i) (lCons (eVar j) lNil))) ρ = M.pure (nI (turn w)) := by
  have g := gcd_le9 k
  have : w.2 < 9 := by have := k.2; omega
  refine bin_ok (x := nI w.1) (y := nI (Nat.gcd w.1 w.2)) (var_ok e1) ?_ (div_nat g.1 (by omega))
  exact (call_ok (ds := [nI w.1, nI w.2]) (cons_ok (var_ok e1) (one_ok (var_ok e2)))).trans (great_nat (by omega))
theorem lc_ev {m u : Nat} (hm : 0 < m) (hm2 : m < 1000000) (hu : 0 < u) (hu2 : u < 100) {ρ : En} {i j : Nat} (e1 : getD ρ i = some (nI m)) (e2 : getD ρ j = some (nI u)) :
    eBin dMulB (eBin dDiv (eVar i) (eCall m_greatest (lCons (eVar i) (lCons (eVar j) lNil)))) (eVar j) ρ = M.pure (nI (lc m u)) := by
  have g : 0 < Nat.gcd m u := Nat.gcd_pos_of_pos_left _ hm
  have g2 : Nat.gcd m u ≤ m := Nat.gcd_le_left _ hm
  refine bin_ok (x := nI (m / Nat.gcd m u)) (y := nI u) ?_ (var_ok e2) (mul_nat (by omega))
  refine bin_ok (x := nI m) (y := nI (Nat.gcd m u)) (var_ok e1) ?_ (div_nat g (by omega))
  exact (call_ok (ds := [nI m, nI u]) (cons_ok (var_ok e1) (one_ok (var_ok e2)))).trans (great_nat (by omega))
abbrev ER (ws : List W) (bs : List Bd) (f : Int) (m : Nat) (a4 a5 a6 a7 a8 a9 a10 : Option SV) : En := [V (encT ws), V (encBs bs), V (.int f), V (nI m), a4, a5, a6, a7, a8, a9, a10]
abbrev cntD (ws : List W) : D := .list (ws.map fun w => nI (turn w))
theorem cnt_ix {ws : List W} {x : Bd} (h : x.1.1 < ws.length) : dIx (cntD ws) (nI x.1.1) = some (nI (turn (wh ws x))) :=
  ixD_list (by rw [List.getElem?_map, wh, List.getD_eq_getElem?_getD, List.getElem?_eq_getElem h]; rfl)
theorem s6r_ok {ws : List W} (h : Tr ws) {bs : List Bd} : s_round_error_6 (ER ws bs 0 1 (some (.own [])) none none none none none none) = M.pure (.nx (ER ws bs 0 1 (some (.own (ws.map fun w => nI (turn w)))) none none none none none none)) := by
  have hl := h.len
  unfold s_round_error_6
  refine (for_ok (ds := ws.map encW) rfl).trans ?_
  refine (for_fold (b := y_round_error_1) encW (fun acc : List Nat => ER ws bs 0 1 (some (.own (acc.map nI))) none none none none none none) (fun acc w => acc ++ [turn w]) (fun r acc => (∀ w ∈ r, WOk w) ∧ acc.length + r.length ≤ 2) ws [] _ (fun w r acc hi => ?_) ⟨h.one, by rw [List.length_nil]; omega⟩ rfl).trans ?_
  · obtain ⟨hw, hl'⟩ := hi
    rw [List.length_cons] at hl'
    have k := hw w List.mem_cons_self
    refine ⟨ER ws bs 0 1 (some (.own (acc.map nI))) (V (nI w.1)) (V (nI w.2)) none none none none, ER ws bs 0 1 (some (.own ((acc ++ [turn w]).map nI))) (V (nI w.1)) (V (nI w.2)) none none none none, rfl, ?_, rfl, fun x hx => hw x (List.mem_cons_of_mem _ hx), by rw [List.length_append]; simp; omega⟩
    refine (app_ok (ds := acc.map nI) rfl (turn_ev k rfl rfl) (by rw [sizeLine_eq, List.length_map]; omega)).trans ?_
    rw [List.map_append]; rfl
  · have go : ∀ (l : List W) (acc : List Nat), l.foldl (fun acc w => acc ++ [turn w]) acc = acc ++ l.map turn := fun l => by
      induction l with
      | nil => intro acc; simp
      | cons x l ih => intro acc; rw [List.foldl_cons, ih, List.map_cons, List.append_assoc]; rfl
    rw [go, List.nil_append, List.map_map]; rfl
theorem s7r_ok {ws : List W} (h : Tr ws) {bs : List Bd} : s_round_error_7 (ER ws bs 0 1 (some (.own (ws.map fun w => nI (turn w)))) none none none none none none) = M.pure (.nx (ER ws bs 0 (cyc ws) (V (cntD ws)) none none none none none none)) := by
  show sFor (.n 7) (itS (eVar 4)) [7] y_round_error_2 (ER ws bs 0 1 (V (cntD ws)) none none none none none none) = _
  refine (for_ok (ds := ws.map fun w => nI (turn w)) rfl).trans ?_
  refine (for_fold (b := y_round_error_2) (fun w => nI (turn w)) (fun m : Nat => ER ws bs 0 m (V (cntD ws)) none none none none none none) (fun m w => lc m (turn w)) (fun r m => 0 < m ∧ (∀ w ∈ r, WOk w) ∧ m * 9 ^ r.length ≤ 729) ws 1 _ (fun w r m hi => ?_) ⟨by omega, h.one, by
      have : (9 : Nat) ^ ws.length ≤ 9 ^ 3 := Nat.pow_le_pow_right (by omega) (by have := h.len; omega)
      omega⟩ rfl).trans rfl
  obtain ⟨m0, hw, ml⟩ := hi
  have k := hw w List.mem_cons_self
  have tp := turn_pos k
  rw [List.length_cons, Nat.pow_succ] at ml
  have p1 : 1 ≤ 9 ^ r.length := Nat.pow_pos (by omega)
  have ml' : m * 9 * 9 ^ r.length ≤ 729 := by rw [Nat.mul_assoc, Nat.mul_comm 9]; exact ml
  have m9 : m * 9 ≤ 729 := Nat.le_trans (Nat.le_mul_of_pos_right _ p1) ml'
  refine ⟨ER ws bs 0 m (V (cntD ws)) none none (V (nI (turn w))) none none none, ER ws bs 0 (lc m (turn w)) (V (cntD ws)) none none (V (nI (turn w))) none none none, rfl, ?_, rfl, ?_, fun x hx => hw x (List.mem_cons_of_mem _ hx), ?_⟩
  · exact (set_ok (lc_ev m0 (by omega) tp.1 (by omega) rfl rfl) (by show 3 < 11; omega)).trans rfl
  · rw [lc_eq]; exact Nat.lcm_pos m0 tp.1
  · rw [lc_eq]
    have : Nat.lcm m (turn w) ≤ m * turn w := Nat.le_of_dvd (Nat.mul_pos m0 tp.1) (Nat.lcm_dvd (Nat.dvd_mul_right _ _) (Nat.dvd_mul_left _ _))
    refine Nat.le_trans (Nat.mul_le_mul_right _ (Nat.le_trans this (Nat.mul_le_mul_left _ tp.2))) ml'
theorem y3r_ok {ws : List W} (h : Tr ws) {bs : List Bd} {f : Int} {x : Bd} (h1 : x.1.1 < ws.length) (h2 : x.1.2 < (wh ws x).1) : y_round_error_3 (ER ws bs f (cyc ws) (V (cntD ws)) none none none (V (nI x.1.1)) (V (nI x.1.2)) (V (.int x.2))) = M.pure (.nx (ER ws bs (f + part1 ws x) (cyc ws) (V (cntD ws)) none none none (V (nI x.1.1)) (V (nI x.1.2)) (V (.int x.2)))) := by
  have hw := wh_mem h1
  have k := h.one _ hw
  have tp := turn_pos k
  have k1 := k.1
  have k2 := k.2.1
  have c1 := cyc_le h.one (by have := h.len; omega)
  have tle : turn (wh ws x) ≤ (wh ws x).1 := Nat.div_le_self _ _
  have dp : 0 < (wh ws x).1 / turn (wh ws x) := Nat.div_pos tle tp.1
  have t : bOf (eBin dEq (eBin dMod (eVar 9) (eBin dDiv (eBin dIx (eBin dIx (eVar 0) (eVar 8)) (eC (.int 0))) (eBin dIx (eVar 4) (eVar 8)))) (eC (.int 0))) (ER ws bs f (cyc ws) (V (cntD ws)) none none none (V (nI x.1.1)) (V (nI x.1.2)) (V (.int x.2))) = M.pure (decide (x.1.2 % ((wh ws x).1 / turn (wh ws x)) = 0)) :=
    of_ok (bin_ok (x := nI (x.1.2 % ((wh ws x).1 / turn (wh ws x)))) (y := nI 0) (bin_ok (x := nI x.1.2) (y := nI ((wh ws x).1 / turn (wh ws x))) rfl (bin_ok (x := nI (wh ws x).1) (y := nI (turn (wh ws x))) (bin_ok (x := encW (wh ws x)) (y := nI 0) (bin_ok (x := encT ws) (y := nI x.1.1) rfl rfl (wheel_ix h1)) rfl rfl) (bin_ok (x := cntD ws) (y := nI x.1.1) rfl rfl (cnt_ix h1)) (div_nat tp.1 (by omega))) (mod_nat dp)) rfl eq_nat)
  unfold y_round_error_3 part1
  by_cases hq : x.1.2 % ((wh ws x).1 / turn (wh ws x)) = 0
  · rw [decide_eq_true hq] at t
    rw [if_pos hq]
    refine (if_t t).trans ?_
    have cc : cyc ws / turn (wh ws x) ≤ cyc ws := Nat.div_le_self _ _
    have ev : eBin dMulB (eVar 10) (eBin dDiv (eVar 3) (eBin dIx (eVar 4) (eVar 8))) (ER ws bs f (cyc ws) (V (cntD ws)) none none none (V (nI x.1.1)) (V (nI x.1.2)) (V (.int x.2))) = M.pure (.int (x.2 * ((cyc ws / turn (wh ws x) : Nat) : Int))) :=
      bin_ok (x := .int x.2) (y := nI (cyc ws / turn (wh ws x))) rfl (bin_ok (x := nI (cyc ws)) (y := nI (turn (wh ws x))) rfl (bin_ok (x := cntD ws) (y := nI x.1.1) rfl rfl (cnt_ix h1)) (div_nat tp.1 (by omega))) (mul_int (.inr (small_nat (by omega))))
    unfold sAug
    show M.bind (eBin dMulB _ _ _) _ = _
    rw [ev, M.pure_bind]
    rfl
  · rw [decide_eq_false hq] at t
    rw [if_neg hq, Int.add_zero]
    exact (if_f t).trans rfl
theorem round_error_eq {ws : List W} (h : Tr ws) {bs : List Bd} (hb : BOk ws bs) : m_round_error [encT ws, encBs bs] = M.pure (.int (rsum ws bs)) := by
  refine mkF_rt ?_
  refine (seq_nx (need_e h rfl)).trans ?_
  refine (seq_nx (ρ' := [V (encT ws), V (encBs bs), none, none, none, none, none, none, none, none, none]) ((if_f (not_ok (x := true) (of_ok ((call_ok (ds := [encT ws, encBs bs]) rfl).trans (are_bends_ok hb))))).trans rfl)).trans ?_
  refine (seq_nx (ρ' := [V (encT ws), V (encBs bs), V (.int 0), none, none, none, none, none, none, none, none]) rfl).trans ?_
  refine (seq_nx (ρ' := ER ws bs 0 1 none none none none none none none) rfl).trans ?_
  refine (seq_nx (ρ' := ER ws bs 0 1 (some (.own [])) none none none none none none) ((own_ok (by show 4 < 11; omega)).trans rfl)).trans ?_
  refine (seq_nx (s6r_ok h)).trans ?_
  refine (seq_nx (s7r_ok h)).trans ?_
  have s8 : s_round_error_8 (ER ws bs 0 (cyc ws) (V (cntD ws)) none none none none none none) = M.pure (.nx (ER ws bs (rsum ws bs) (cyc ws) (V (cntD ws)) none none none none none none)) := by
    unfold s_round_error_8
    refine (for_ok (ds := bs.map encB) rfl).trans ?_
    refine (for_fold (b := y_round_error_3) encB (fun f : Int => ER ws bs f (cyc ws) (V (cntD ws)) none none none none none none) (fun f x => f + part1 ws x) (fun r _ => ∀ x ∈ r, x ∈ bs) bs 0 _ (fun x r f hi => ?_) (fun x hx => hx) rfl).trans ?_
    · obtain ⟨h1, h2, _⟩ := hb.one x (hi x List.mem_cons_self)
      exact ⟨_, _, rfl, y3r_ok h h1 h2, rfl, fun y hy => hi y (List.mem_cons_of_mem _ hy)⟩
    · have go : ∀ (l : List Bd) (f : Int), l.foldl (fun f x => f + part1 ws x) f = f + (l.map (part1 ws)).sum := fun l => by
        induction l with
        | nil => intro f; simp
        | cons x l ih => intro f; rw [List.foldl_cons, ih, List.map_cons, List.sum_cons, Int.add_assoc]
      rw [go, Int.zero_add]; rfl
  refine (seq_nx s8).trans ?_
  rfl
end Lay.K02

set_option Elab.async false
set_option linter.all false
set_option maxRecDepth 100000
set_option maxHeartbeats 2000000
/-! k02: what is surely bent; lots sorted -/
namespace Lay.K02
open PySem PySem.Spec PyProof.Rows L2 Lay Lay.K01

theorem plain_K (k : K) {n : Nat} : plain (n + 1) (encK k) = true := by
  show (plain n (nI k.1) && (plain n (nI k.2) && plains n [])) = true
  cases n <;> rfl
theorem plain_B (x : Bd) {n : Nat} : plain (n + 1) (encB x) = true := by
  show (plain n (nI x.1.1) && (plain n (nI x.1.2) && (plain n (.int x.2) && plains n []))) = true
  cases n <;> rfl
theorem plains_of {n : Nat} : ∀ {ds : List D}, (∀ d ∈ ds, plain n d = true) → plains n ds = true
  | [], _ => by cases n <;> rfl
  | d :: ds, h => by
    show (plain n d && plains n ds) = true
    rw [h d List.mem_cons_self, plains_of fun x hx => h x (List.mem_cons_of_mem _ hx)]; rfl
theorem plain_Bs (bs : List Bd) {n : Nat} : plain (n + 2) (encBs bs) = true :=
  plains_of fun d hd => by
    obtain ⟨x, _, rfl⟩ := List.mem_map.mp hd
    exact plain_B x
theorem encK_inj {a b : K} (h : encK a = encK b) : a = b := by
  unfold encK at h
  injection h with h
  injection h with h1 h2
  injection h2 with h2 _
  injection h1 with h1
  injection h2 with h2
  exact Prod.ext (by omega) (by omega)
theorem in_keys {k : K} {ks : List K} : dIn (encK k) (.list (ks.map encK)) = some (.bool (decide (k ∈ ks))) := by
  have pl : plain 2 (.list (ks.map encK)) = true := plains_of (n := 1) fun d hd => by
    obtain ⟨x, _, rfl⟩ := List.mem_map.mp hd
    exact plain_K x
  show (if (SeqAt.shaped (encK k) && SeqAt.shaped (.list (ks.map encK))) = true then some (PyData.bool ((ks.map encK).any fun z => PyData.eqv z (encK k))) else none) = _
  rw [if_pos (by rw [shaped_plain (n := 1) (plain_K k) (by omega), shaped_plain pl (by omega)]; rfl)]
  congr 2
  rw [Bool.eq_iff_iff, List.any_eq_true, decide_eq_true_eq]
  constructor
  · rintro ⟨d, hd, e⟩
    obtain ⟨x, hx, rfl⟩ := List.mem_map.mp hd
    rw [← encK_inj ((eqv_plain 1 (encK x) (encK k) 1 (plain_K x) (plain_K k)).mp e)]
    exact hx
  · intro h
    exact ⟨_, List.mem_map.mpr ⟨k, h, rfl⟩, (eqv_plain 1 (encK k) (encK k) 1 (plain_K k) (plain_K k)).mpr rfl⟩
/-! ### lots -/
theorem pairs_len {ws : List W} (h : Tr ws) {off : Nat → Int} {n : Nat} (hn : n ≤ 13) : (pairs ws off n).length ≤ 676 := by
  have tl := teeth_len h n
  unfold pairs
  have := flat_len (l := List.range (teeth ws n).length) (f := fun i => pairsI ws off n i) (m := 26) fun i _ => by
    have := pairsI_len (ws := ws) (off := off) (n := n) (i := i)
    omega
  rw [List.length_range] at this
  omega
theorem lots_len {ws : List W} (h : Tr ws) {off : Nat → Int} {n most : Nat} (hn : n ≤ 13) : (lots ws off n most).length ≤ 1000 := by
  have h1 := lots1_len h (off := off) (most := most) hn
  have h2 := pairs_len h (off := off) hn
  unfold lots
  split
  · show 1 ≤ 1000; omega
  · unfold lots2
    rw [List.length_append]
    split
    · omega
    · rw [List.length_nil]; omega
/-- what a lot is -/
inductive IsLot : Lot → Prop
  | nil : IsLot []
  | one (x : Bd) : IsLot [x]
  | two (x y : Bd) : IsLot [x, y]
theorem IsLot.len {l : Lot} (h : IsLot l) : l.length ≤ 2 := by
  cases h
  · show 0 ≤ 2; omega
  · show 1 ≤ 2; omega
  · show 2 ≤ 2; omega
theorem mem_lots1 {ws : List W} {off : Nat → Int} {n most : Nat} {l : Lot} (h : l ∈ lots1 ws off n most) : ∃ x, l = [x] := by
  unfold lots1 at h
  split at h
  · unfold singles at h
    obtain ⟨k, _, h⟩ := List.mem_flatMap.mp h
    obtain ⟨e, _, rfl⟩ := List.mem_map.mp h
    exact ⟨_, rfl⟩
  · cases h
theorem mem_pairs {ws : List W} {off : Nat → Int} {n : Nat} {l : Lot} (h : l ∈ pairs ws off n) : ∃ x y, l = [x, y] := by
  unfold pairs at h
  obtain ⟨i, _, h⟩ := List.mem_flatMap.mp h
  unfold pairsI at h
  obtain ⟨j, _, h⟩ := List.mem_flatMap.mp h
  unfold pairP at h
  obtain ⟨e, _, rfl⟩ := List.mem_map.mp h
  exact ⟨_, _, rfl⟩
theorem lots_shape (ws : List W) (off : Nat → Int) (n most : Nat) : lots ws off n most = [[]] ∨ (∀ l ∈ lots ws off n most, ∃ x, l = [x]) ∨ ∀ l ∈ lots ws off n most, ∃ x y, l = [x, y] := by
  unfold lots
  split
  · exact .inl rfl
  · refine .inr ?_
    unfold lots2
    split
    · rename_i hh
      rw [List.length_eq_zero_iff.mp hh.2, List.nil_append]
      exact .inr fun l hl => mem_pairs hl
    · rw [List.append_nil]
      exact .inl fun l hl => mem_lots1 hl
theorem lot_is {ws : List W} {off : Nat → Int} {n most : Nat} {l : Lot} (h : l ∈ lots ws off n most) : IsLot l := by
  rcases lots_shape ws off n most with e | e | e
  · rw [e, List.mem_singleton] at h; subst h; exact .nil
  · obtain ⟨x, rfl⟩ := e l h; exact .one x
  · obtain ⟨x, y, rfl⟩ := e l h; exact .two x y
theorem srtOk_lots (ws : List W) (off : Nat → Int) (n most : Nat) : SrtOk ((lots ws off n most).map encBs) := by
  refine ⟨fun d hd => ?_, fun h2 => ?_, depthAll_le fun d hd => ?_⟩
  · obtain ⟨l, _, rfl⟩ := List.mem_map.mp hd; exact ⟨_, rfl⟩
  · rw [List.length_map] at h2
    rcases lots_shape ws off n most with e | e | e
    · rw [e] at h2; exact absurd h2 (by show ¬ 2 ≤ 1; omega)
    · refine ⟨fun d hd d' hd' => ?_, .inl fun d hd => ?_⟩
      · obtain ⟨l, hl, rfl⟩ := List.mem_map.mp hd
        obtain ⟨l', hl', rfl⟩ := List.mem_map.mp hd'
        obtain ⟨x, rfl⟩ := e l hl
        obtain ⟨x', rfl⟩ := e l' hl'
        rfl
      · obtain ⟨l, hl, rfl⟩ := List.mem_map.mp hd
        obtain ⟨x, rfl⟩ := e l hl
        exact ⟨_, _, rfl⟩
    · refine ⟨fun d hd d' hd' => ?_, .inl fun d hd => ?_⟩
      · obtain ⟨l, hl, rfl⟩ := List.mem_map.mp hd
        obtain ⟨l', hl', rfl⟩ := List.mem_map.mp hd'
        obtain ⟨x, y, rfl⟩ := e l hl
        obtain ⟨x', y', rfl⟩ := e l' hl'
        rfl
      · obtain ⟨l, hl, rfl⟩ := List.mem_map.mp hd
        obtain ⟨x, y, rfl⟩ := e l hl
        exact ⟨_, _, rfl⟩
  · obtain ⟨l, _, rfl⟩ := List.mem_map.mp hd
    have := (plain_shape 2 (encBs l) (plain_Bs l)).2
    omega
theorem plain_sorted (ws : List W) (off : Nat → Int) (n most : Nat) : plain 3 (.list (sortA ((lots ws off n most).map encBs))) = true :=
  plains_of (n := 2) fun d hd => by
    obtain ⟨l, _, rfl⟩ := List.mem_map.mp ((sortA_perm _).mem_iff.mp hd)
    exact plain_Bs l
/-! ### what is surely bent -/
def ks (l : Lot) : List K := l.map (·.1)
noncomputable def inAll (ws : List W) (off : Nat → Int) (n most : Nat) (k : K) : Bool := (lots ws off n most).all fun l => decide (k ∈ ks l)
noncomputable def sure (ws : List W) (off : Nat → Int) (n most : Nat) : List K := (ks ((lots ws off n most).headD [])).filter (inAll ws off n most)
theorem two_ev {l : Lot} (hl : l.length ≤ 2) {ρ : En} {i : Nat} {it : EL} (hi : it ρ = M.pure (l.map encB)) (pos : Bd → En) (hp : ∀ x, bindT (.n i) (clr ρ [i]) (encB x) = some (pos x) ∧ getD (pos x) i = some (encB x)) :
    eComp (.n i) it bYes (eSl (eVar i) none (some (eC (.int 2)))) [i] ρ = M.pure (.list ((ks l).map encK)) := by
  refine comp_ok hi ?_ (by unfold ks; rw [sizeLine_eq, List.length_map, List.length_map]; omega)
  have e := comp_go (ρ := ρ) (tg := .n i) (conds := bYes) (elt := eSl (eVar i) none (some (eC (.int 2)))) (vs := [i]) encB (fun _ => true) (fun x => encK x.1) pos l fun x _ => ⟨(hp x).1, rfl, fun _ => sl2 (var_ok (hp x).2)⟩
  rw [List.filter_eq_self.mpr (fun _ _ => rfl)] at e
  unfold ks
  rw [List.map_map]
  exact e
abbrev ES (ws : List W) (base : Int) (off : Nat → Int) (n most : Nat) (a4 a5 a6 a7 a8 : Option SV) : En := [V (encT ws), V (.int base), V (tkT base off n), V (nI most), a4, a5, a6, a7, a8]
noncomputable abbrev lotsT (ws : List W) (off : Nat → Int) (n most : Nat) : D := .tuple ((lots ws off n most).map encBs)
theorem ks_len {l : Lot} (h : l.length ≤ 2) : (ks l).length ≤ 2 := by unfold ks; rw [List.length_map]; exact h
theorem sure_eq {ws : List W} (h : Tr ws) {base : Int} {off : Nat → Int} {n most : Nat} (t : TOk base off n) (hm : most ≤ 2) : m_surely_bent [encT ws, .int base, tkT base off n, nI most] = M.pure (.tuple ((sure ws off n most).map encK)) := by
  have hn := t.n1
  have ll := lots_len h (off := off) (most := most) hn
  refine mkF_rt ?_
  refine (seq_nx (need_t h t rfl rfl rfl)).trans ?_
  refine (seq_nx (need_m hm rfl)).trans ?_
  refine (seq_nx (ρ' := ES ws base off n most (V (lotsT ws off n most)) none none none none) ((set_ok ((call_ok (ds := [encT ws, .int base, tkT base off n, nI most]) rfl).trans (expl_eq h t hm)) (by show 4 < 9; omega)).trans rfl)).trans ?_
  have t4 : bOf (eBin dEq (eCallB dLen (lCons (eVar 4) lNil)) (eC (.int 0))) (ES ws base off n most (V (lotsT ws off n most)) none none none none) = M.pure (decide ((lots ws off n most).length = 0)) :=
    of_ok (bin_ok (x := nI (lots ws off n most).length) (y := nI 0) (len_T rfl) rfl eq_nat)
  have li : ∀ l ∈ lots ws off n most, IsLot l := fun l hl => lot_is hl
  unfold sure inAll
  unfold lotsT at *
  generalize lots ws off n most = ls at *
  cases ls with
  | nil => exact seq_rt ((if_t t4).trans (ret_ok (tup_ok (xs := []) rfl (by show 0 ≤ 16777216; omega))))
  | cons l0 r =>
    have l0' := (li l0 List.mem_cons_self).len
    refine (seq_nx ((if_f t4).trans rfl)).trans ?_
    refine (seq_nx (ρ' := ES ws base off n most (V (.tuple ((l0 :: r).map encBs))) (V (.list ((ks l0).map encK))) none none none) ((set_ok (two_ev (l := l0) l0' (seqS_tup (ds := l0.map encB) (bin_ok (x := .tuple ((l0 :: r).map encBs)) (y := nI 0) rfl rfl (ixD_tup (i := 0) rfl))) (fun x => setV (ES ws base off n most (V (.tuple ((l0 :: r).map encBs))) none none none none) 6 (encB x)) fun x => ⟨rfl, rfl⟩) (by show 5 < 9; omega)).trans rfl)).trans ?_
    show _ = M.pure (Fl.rt (.tuple (((ks l0).filter fun k => (l0 :: r).all fun l => decide (k ∈ ks l)).map encK)))
    refine ret_ok (callB_ok (ds := [.list (((ks l0).filter fun k => (l0 :: r).all fun l => decide (k ∈ ks l)).map encK)]) (one_ok ?_) rfl)
    refine comp_ok (ds := (ks l0).map encK) (seqS_list rfl) (comp_go encK (fun k => (l0 :: r).all fun l => decide (k ∈ ks l)) encK (fun k => ES ws base off n most (V (.tuple ((l0 :: r).map encBs))) (V (.list ((ks l0).map encK))) none (V (encK k)) none) (ks l0) fun k hk => ⟨rfl, ?_, fun _ => rfl⟩) (by rw [sizeLine_eq, List.length_map]; have := ks_len l0'; exact Nat.le_trans (List.length_filter_le _ _) (by omega))
    refine of_ok (callB_ok (ds := [.list ((l0 :: r).map fun l => .bool (decide (k ∈ ks l)))]) (one_ok ?_) (all_map _ _))
    refine comp_ok (ds := (l0 :: r).map encBs) (seqS_tup rfl) ?_ (by rw [sizeLine_eq, List.length_map]; omega)
    have e := comp_go (ρ := ES ws base off n most (V (.tuple ((l0 :: r).map encBs))) (V (.list ((ks l0).map encK))) none (V (encK k)) none) (tg := .n 8) (conds := bYes) (elt := eBin dIn (eVar 7) (eComp (.n 6) (itS (eVar 8)) bYes (eSl (eVar 6) none (some (eC (.int 2)))) [6])) (vs := [8]) encBs (fun _ => true) (fun l => .bool (decide (k ∈ ks l))) (fun l => ES ws base off n most (V (.tuple ((l0 :: r).map encBs))) (V (.list ((ks l0).map encK))) none (V (encK k)) (V (encBs l))) (l0 :: r) fun l hl => ⟨rfl, rfl, fun _ => bin_ok (x := encK k) (y := .list ((ks l).map encK)) rfl (two_ev (li l hl).len (seqS_tup rfl) (fun x => setV (ES ws base off n most (V (.tuple ((l0 :: r).map encBs))) (V (.list ((ks l0).map encK))) none (V (encK k)) (V (encBs l))) 6 (encB x)) fun x => ⟨rfl, rfl⟩) in_keys⟩
    rw [List.filter_eq_self.mpr (fun _ _ => rfl)] at e
    exact e
end Lay.K02

set_option Elab.async false
set_option linter.all false
set_option maxRecDepth 100000
set_option maxHeartbeats 2000000
/-! k02: the drawn train, the drawn bends -/
namespace Lay.K02
open PySem PySem.Spec PyProof.Rows L2 Lay Lay.K01

theorem snocW (ws : List W) (w : W) : ws.map encW ++ [encW w] = (ws ++ [w]).map encW := by rw [List.map_append]; rfl
theorem train_go {k : Nat} {δ : Dice} (v : Valid (k + 5) δ) : Good (m__law_train [.int 2]) δ fun d δ' => ∃ ws, d = encT ws ∧ Tr ws ∧ Valid k δ' := by
  unfold m__law_train
  refine Good.mkD rfl ?_
  show Good (b__law_train [some .dice, V (.int 2), none, none, none]) δ _
  unfold b__law_train
  refine Good.nx (ρ' := [some .dice, V (.int 2), some (.own []), none, none]) ((own_ok (by show 2 < 5; omega)).trans rfl) ?_
  refine Good.seq ?_
  unfold s__law_train_2
  rw [roll_eq]
  refine Good.sfor (Good.r1 (Good.bin (Good.of (a := .int 1) rfl (Good.roll (k := k + 4) (m := 2) v rfl rfl (by omega) (by omega) fun r δ1 r0 r6 v1 => ?_))))
  obtain ⟨n, rfl⟩ := Int.eq_ofNat_of_zero_le r0
  refine ⟨.int ((1 + n : Nat) : Int), by show some (PyData.int (1 + (n : Int))) = _; push_cast; rfl, 1 + n, rfl, by omega, ?_⟩
  refine Good.for (tg := .n 3) (enc := fun i : Nat => PyData.int (i : Nat)) (fun r ρ δ => ∃ ws : List W, clr ρ [3, 4] = [some .dice, V (.int 2), some (.own (ws.map encW)), none, none] ∧ (∀ w ∈ ws, WOk w) ∧ ws.length + r.length = 1 + n ∧ Valid (k + 2 * r.length) δ) (List.range (1 + n)) _ δ1 ?_ ?_ ⟨[], rfl, fun c hc => (by cases hc), by rw [List.length_range]; simp, v1.less (by rw [List.length_range]; omega)⟩
  · rintro i r ρ δ ⟨ws, e, ok, hl, v⟩
    rw [e]
    rw [List.length_cons] at hl v
    refine ⟨[some .dice, V (.int 2), some (.own (ws.map encW)), V (.int (i : Nat)), none], rfl, ?_⟩
    unfold y__law_train_1
    rw [roll_eq]
    refine Good.seq (Good.set (by show 4 < 5; omega) (Good.bin (Good.of (a := .int 2) rfl (Good.roll (k := k + 2 * r.length + 1) (m := 8) (v.less (by omega)) rfl rfl (by omega) (by omega) fun a δ2 a0 a1 v2 => ?_))))
    obtain ⟨a, rfl⟩ := Int.eq_ofNat_of_zero_le a0
    refine ⟨.int ((2 + a : Nat) : Int), by show some (PyData.int (2 + (a : Int))) = _; push_cast; rfl, ?_⟩
    refine Good.app (ds := ws.map encW) rfl (by rw [List.length_map]; omega) (Good.tup (Good.cons (Good.of (a := .int ((2 + a : Nat) : Int)) rfl (Good.cons (Good.bin (Good.of (a := .int 1) rfl (Good.roll (k := k + 2 * r.length) (m := ((2 + a : Nat) : Int) - 1) v2 rfl rfl (by omega) (by omega) fun b δ3 b0 b1 v3 => ?_)))))))
    obtain ⟨b, rfl⟩ := Int.eq_ofNat_of_zero_le b0
    refine ⟨.int ((1 + b : Nat) : Int), by show some (PyData.int (1 + (b : Int))) = _; push_cast; rfl, Good.nil ⟨by show 2 ≤ 16777216; omega, ws ++ [(2 + a, 1 + b)], ?_, fun w hw => ?_, by rw [List.length_append]; simp; omega, v3⟩⟩
    · show [some .dice, V (.int 2), some (SV.own (ws.map encW ++ [encW (2 + a, 1 + b)])), none, none] = _
      rw [snocW]
    · rcases List.mem_append.mp hw with hw | hw
      · exact ok w hw
      · rw [List.mem_singleton] at hw
        subst hw
        refine ⟨?_, ?_, ?_, ?_⟩ <;> dsimp only <;> omega
  · rintro ρ δ ⟨ws, e, ok, hl, v⟩
    rw [e]
    rw [List.length_nil] at hl v
    refine Good.of (a := .rt (encT ws)) rfl ⟨_, rfl, ws, rfl, ⟨ok, by omega, by omega⟩, v⟩
/-! ### rules for what comes out well -/
section
variable {ρ : En} {δ : Dice}
theorem Good.par3T {i j l : Nat} {a b : Lay.EX} {Q : Fl → Dice → Prop} (hi : i < ρ.length) (hj : j < ρ.length) (hl : l < ρ.length) (hL : noL ρ = true) (h : Good (a ρ) δ fun x δ1 => Good (b ρ) δ1 fun y δ2 => Q (.nx (setT (setV (setV ρ i x) j y) l [])) δ2) : Good (sPar3T i j l a b ρ) δ Q := by
  unfold sPar3T
  refine Good.bind (h.imp fun x δ1 h1 => Good.bind (h1.imp fun y δ2 q => ?_))
  show Good (if i < ρ.length ∧ j < ρ.length ∧ l < ρ.length ∧ noL ρ = true then _ else _) δ2 Q
  rw [if_pos ⟨hi, hj, hl, hL⟩]
  exact .pure q
theorem Good.par {i j : Nat} {a b : Lay.EX} {Q : Fl → Dice → Prop} (hi : i < ρ.length) (hj : j < ρ.length) (h : Good (a ρ) δ fun x δ1 => Good (b ρ) δ1 fun y δ2 => Q (.nx (setV (setV ρ i x) j y)) δ2) : Good (sPar i j a b ρ) δ Q := by
  unfold sPar
  refine Good.bind (h.imp fun x δ1 h1 => Good.bind (h1.imp fun y δ2 q => ?_))
  show Good (if i < ρ.length ∧ j < ρ.length then _ else _) δ2 Q
  rw [if_pos ⟨hi, hj⟩]
  exact .pure q
theorem Good.tset {i : Nat} {a b : Lay.EX} {kvs : List (List Int × D)} {Q : Fl → Dice → Prop} (hg : getT ρ i = some kvs) (hs : soleT ρ i = true) (h1 : kvs.length < 16777216) (h2 : (kvs.map (·.1)).Nodup) (h : Good (b ρ) δ fun d δ1 => Good (a ρ) δ1 fun y δ2 => ∃ k, tupN y = some k ∧ Q (.nx (setT ρ i (putT kvs k d))) δ2) : Good (sTSet i a b ρ) δ Q := by
  unfold sTSet
  rw [hg]
  refine Good.bind (h.imp fun d δ1 h3 => Good.bind (h3.imp fun y δ2 ⟨k, e, q⟩ => ?_))
  rw [e]
  dsimp only
  rw [if_pos ⟨by rw [sizeLine_eq]; exact h1, h2, hs⟩]
  exact .pure q
theorem Good.band {a b : EB} {P : Bool → Dice → Prop} (h : Good (a ρ) δ fun x δ1 => (x = true → Good (b ρ) δ1 P) ∧ (x = false → P false δ1)) : Good (bAnd a b ρ) δ P := by
  unfold bAnd
  refine Good.bind (h.imp fun x δ1 h => ?_)
  cases x with
  | true => exact h.1 rfl
  | false => exact .pure (h.2 rfl)
end
/-! ### the dict of bends -/
def setB : List Bd → K → Int → List Bd
  | [], k, e => [(k, e)]
  | x :: r, k, e => if x.1 = k then (x.1, e) :: r else x :: setB r k e
abbrev rowB (l : List Bd) : List (List Int × D) := l.map fun x => (kI x.1, PyData.int x.2)
theorem putT_B {k : K} {e : Int} : ∀ l : List Bd, putT (rowB l) (kI k) (.int e) = rowB (setB l k e)
  | [] => rfl
  | x :: l => by
    show putT ((kI x.1, PyData.int x.2) :: rowB l) _ _ = _
    unfold putT setB
    by_cases h : x.1 = k
    · rw [if_pos (by rw [h]), if_pos h]; rfl
    · rw [if_neg (fun z => h (kI_inj z)), if_neg h, putT_B l]; rfl
theorem setB_len {k : K} {e : Int} : ∀ l : List Bd, (setB l k e).length ≤ l.length + 1
  | [] => Nat.le_refl _
  | x :: l => by
    unfold setB
    split
    · rw [List.length_cons, List.length_cons]; omega
    · have := setB_len (k := k) (e := e) l
      show (setB l k e).length + 1 ≤ l.length + 1 + 1
      omega
theorem setB_mem {k : K} {e : Int} {y : Bd} : ∀ {l : List Bd}, y ∈ setB l k e → y ∈ l ∨ y = (k, e)
  | [], h => by
    have h : y ∈ [(k, e)] := h
    exact .inr (List.mem_singleton.mp h)
  | x :: l, h => by
    unfold setB at h
    split at h
    · rename_i hx
      rcases List.mem_cons.mp h with h | h
      · exact .inr (by rw [h, hx])
      · exact .inl (List.mem_cons_of_mem _ h)
    · rcases List.mem_cons.mp h with h | h
      · exact .inl (by rw [h]; exact List.mem_cons_self)
      · exact (setB_mem h).imp (List.mem_cons_of_mem _) id
theorem setB_keys {k : K} {e : Int} : ∀ {l : List Bd}, (l.map (·.1)).Nodup → ((setB l k e).map (·.1)).Nodup
  | [], _ => by show [k].Nodup; simp
  | x :: l, h => by
    rw [List.map_cons, List.nodup_cons] at h
    unfold setB
    split
    · rw [List.map_cons, List.nodup_cons]; exact h
    · rename_i hx
      rw [List.map_cons, List.nodup_cons]
      refine ⟨fun z => ?_, setB_keys h.2⟩
      obtain ⟨y, hy, ey⟩ := List.mem_map.mp z
      rcases setB_mem hy with hy | hy
      · exact h.1 (List.mem_map.mpr ⟨y, hy, ey⟩)
      · rw [hy] at ey; exact hx ey.symm
theorem valT_B {y : Bd} : ∀ {l : List Bd}, (l.map (·.1)).Nodup → y ∈ l → valT (rowB l) (kI y.1) = some (.int y.2)
  | [], _, h => by cases h
  | x :: l, nd, h => by
    rw [List.map_cons, List.nodup_cons] at nd
    show valT ((kI x.1, PyData.int x.2) :: rowB l) _ = _
    unfold valT
    rcases List.mem_cons.mp h with h | h
    · subst h; exact if_pos rfl
    · rw [if_neg (fun z => nd.1 (by rw [kI_inj z]; exact List.mem_map.mpr ⟨y, h, rfl⟩))]
      exact valT_B nd.2 h
/-! ### sorted -/
theorem dltK {a b : K} : PySem.W.dataLt (encK a) (encK b) = decide (a.1 < b.1 ∨ a.1 = b.1 ∧ a.2 < b.2) := by
  show PySem.W.dataLt (.tuple [.int (a.1 : Nat), .int (a.2 : Nat)]) (.tuple [.int (b.1 : Nat), .int (b.2 : Nat)]) = _
  rw [PySem.W.dataLt_ii, decide_eq_decide.mpr (show ((a.1 : Int) < b.1 ∨ (a.1 : Int) = b.1 ∧ (a.2 : Int) < b.2) ↔ (a.1 < b.1 ∨ a.1 = b.1 ∧ a.2 < b.2) by omega)]
theorem klt_or {a b : K} (h : a ≠ b) : klt a b ∨ klt b a := by
  unfold klt
  rcases Nat.lt_trichotomy a.1 b.1 with h1 | h1 | h1
  · exact .inl (.inl h1)
  · rcases Nat.lt_trichotomy a.2 b.2 with h2 | h2 | h2
    · exact .inl (.inr ⟨h1, h2⟩)
    · exact absurd (Prod.ext h1 h2) h
    · exact .inr (.inr ⟨h1.symm, h2⟩)
  · exact .inr (.inl h1)
theorem ss_two {a b : K} (h : klt a b) {ds : List D} (hp : [encK a, encK b].Perm ds) : SS [encK a, encK b] ds := by
  have l1 : PySem.W.dataLt (encK a) (encK b) = true := by rw [dltK]; exact decide_eq_true h
  have l2 : PySem.W.dataLt (encK b) (encK a) = false := by rw [dltK]; exact decide_eq_false (by unfold klt at h; omega)
  have e1 : SrtO.eqv PySem.W.dataLt (encK a) (encK b) = false := by
    cases q : SrtO.eqv PySem.W.dataLt (encK a) (encK b) with
    | false => rfl
    | true => have := (SrtO.eqv_iff.mp q).1; rw [l1] at this; cases this
  have e2 : SrtO.eqv PySem.W.dataLt (encK b) (encK a) = false := by
    cases q : SrtO.eqv PySem.W.dataLt (encK b) (encK a) with
    | false => rfl
    | true => have := (SrtO.eqv_iff.mp q).2; rw [l1] at this; cases this
  refine ⟨hp, by simp [l2], fun d hd => ?_⟩
  have hc : ds = [encK a, encK b] ∨ ds = [encK b, encK a] := by
    match ds, hp with
    | [], p => exact absurd p.length_eq (by simp)
    | [x], p => exact absurd p.length_eq (by simp)
    | x :: y :: z :: r, p => exact absurd p.length_eq (by simp)
    | [x, y], p =>
      have m : x ∈ [encK a, encK b] := p.mem_iff.mpr List.mem_cons_self
      simp only [List.mem_cons, List.not_mem_nil, or_false] at m
      rcases m with rfl | rfl
      · exact .inl (by rw [List.singleton_perm_singleton.mp p.cons_inv])
      · have p2 : [encK b, encK a].Perm [encK b, y] := (List.Perm.swap _ _ _).trans p
        exact .inr (by rw [List.singleton_perm_singleton.mp p2.cons_inv])
  rcases hc with rfl | rfl
  · rfl
  · rcases List.mem_cons.mp hd with rfl | hd
    · simp [List.filter, eqv_self, e1, e2]
    · rcases List.mem_cons.mp hd with rfl | hd
      · simp [List.filter, eqv_self, e1, e2]
      · cases hd
theorem srtK_two {l : List K} (nd : l.Nodup) (h2 : l.length ≤ 2) : (srtK l).Pairwise klt := by
  have p := srtK_perm l
  match l, nd, h2 with
  | [], _, _ => rw [List.perm_nil.mp p]; exact .nil
  | [a], _, _ => rw [List.perm_singleton.mp p]; simp
  | [a, b], nd, _ =>
    have ne : a ≠ b := by simpa using nd
    have go : ∀ {x y : K}, klt x y → [x, y].Perm [a, b] → (srtK [a, b]).Pairwise klt := fun {x y} h hp => by
      have e := sortA_is (ss_two h (ds := [a, b].map encK) (hp.map encK))
      rw [srtK_eq] at e
      have e2 : srtK [a, b] = [x, y] := map_inj (f := encK) (fun _ _ z => encK_inj z) (e.trans rfl)
      rw [e2]
      simp [h]
    rcases klt_or ne with h | h
    · exact go h (.refl _)
    · exact go h (List.Perm.swap _ _ _)
  | a :: b :: c :: r, _, h2 => exact absurd h2 (by simp)
/-- what the sorted keys and their errors are -/
theorem bends_ex (l : List Bd) : ∃ bs : List Bd, bs.Perm l ∧ srtK (l.map (·.1)) = bs.map (·.1) := by
  obtain ⟨bs, p, e⟩ := perm_map_inv (f := fun x : Bd => x.1) (srtK_perm (l.map (·.1)))
  exact ⟨bs, p, e⟩
end Lay.K02

set_option Elab.async false
set_option linter.all false
set_option maxRecDepth 100000
set_option maxHeartbeats 2000000
/-! k02: the law's own body, step by step -/
namespace Lay.K02
open PySem PySem.Spec PyProof.Rows L2 Lay Lay.K01

/-- the slots of the law's own body -/
abbrev EA (ws : List W) (base : Int) (a3 a4 a5 a6 a7 a8 a9 a10 a11 a12 a13 a14 a15 a16 : Option SV) : En := [some .dice, V (encT ws), V (.int base), a3, a4, a5, a6, a7, a8, a9, a10, a11, a12, a13, a14, a15, a16, none, none]
theorem s3_ok {ws : List W} {base : Int} {l : List Bd} (nd : (l.map (·.1)).Nodup) (hl : l.length ≤ 2) : ∃ bs : List Bd, bs.Perm l ∧ bs.Pairwise (fun x y => klt x.1 y.1) ∧
    s__law_right_3 (EA ws base (some (.dT (rowB l))) none none none none none none none none none none none none none) = M.pure (.nx (EA ws base (V (encBs bs)) none none none none none none none none none none none none none)) := by
  obtain ⟨bs, p, e⟩ := bends_ex l
  have pw := srtK_two nd (by rw [List.length_map]; exact hl)
  rw [e] at pw
  refine ⟨bs, p, List.pairwise_map.mp pw, ?_⟩
  have so : itS (eSortT 3) (EA ws base (some (.dT (rowB l))) none none none none none none none none none none none none none) = M.pure (bs.map fun x => encK x.1) := by
    refine seqS_list ?_
    show M.lift (dSortA [.list ((rowB l).map fun p => tupI p.1)]) = _
    have e1 : (rowB l).map (fun p => tupI p.1) = (l.map (·.1)).map encK := by rw [List.map_map, List.map_map]; rfl
    rw [e1]
    unfold dSortA
    dsimp only
    rw [if_pos (srtOk_keys _), srtK_eq, e, List.map_map]; rfl
  have e2 := comp_go (ρ := EA ws base (some (.dT (rowB l))) none none none none none none none none none none none none none) (tg := .n 12) (conds := bYes) (elt := eBin dAdd (eVar 12) (eTup (lCons (eTGet 3 (eVar 12)) lNil))) (vs := [12]) (fun x : Bd => encK x.1) (fun _ => true) encB (fun x => EA ws base (some (.dT (rowB l))) none none none none none none none none (V (encK x.1)) none none none none) bs fun x hx => ⟨rfl, rfl, fun _ => add_ev rfl (by
    show M.lift ((tupN (encK x.1)).bind fun q => valT (rowB l) q) = _
    rw [tupN_K]
    show M.lift (valT (rowB l) (kI x.1)) = _
    rw [valT_B nd (p.mem_iff.mp hx)]; rfl)⟩
  rw [List.filter_eq_self.mpr (fun _ _ => rfl)] at e2
  refine (set_ok (d := encBs bs) (callB_ok (ds := [.list (bs.map encB)]) (one_ok (comp_ok so e2 ?_)) rfl) (by show 3 < 19; omega)).trans rfl
  rw [sizeLine_eq, List.length_map, p.length_eq]; omega
theorem s5_ok' {ws : List W} (h : Tr ws) {base : Int} {bs : List Bd} (hb : BOk ws bs) {n : Nat} (hn : n ≤ 13) {a7 : Option SV} : s__law_right_5 (EA ws base (V (encBs bs)) none none (V (nI n)) a7 none none none none none none none none none) = M.pure (.nx (EA ws base (V (encBs bs)) none none (V (nI n)) a7 (V (tkL base (sm ws bs) n)) none none none none none none none none)) :=
  (set_ok ((call_ok (ds := [encT ws, .int base, encBs bs, nI n]) rfl).trans (law_len_eq h (fun x hx => (hb.one x hx).1) (by have := hb.len; omega) (by omega))) (by show 8 < 19; omega)).trans rfl
theorem plain_ticks {base : Int} {off : Nat → Int} {n : Nat} : plain 1 (tkT base off n) = true := plain_ints _
theorem tup_ev {base : Int} {off : Nat → Int} {n : Nat} {ρ : En} {i : Nat} (e : getD ρ i = some (tkL base off n)) : eCallB dTuple (lCons (eVar i) lNil) ρ = M.pure (tkT base off n) := callB_ok (ds := [tkL base off n]) (one_ok (var_ok e)) rfl
theorem s6_ok {ws : List W} (h : Tr ws) {base : Int} (b0 : 20 ≤ base) (b1 : base ≤ 39) {bs : List Bd} (hb : BOk ws bs) {n : Nat} (hn : n ≤ 13) {a7 : Option SV} : s__law_right_6 (EA ws base (V (encBs bs)) none none (V (nI n)) a7 (V (tkL base (sm ws bs) n)) none none none none none none none none) = M.pure (.nx (EA ws base (V (encBs bs)) none none (V (nI n)) a7 (V (tkL base (sm ws bs) n)) none none none none none none none none)) := by
  refine (if_f (or_f (of_ok (bin_ok (x := tkT base (sm ws bs) n) (y := tkT base (sm ws bs) n) ?_ (tup_ev rfl) (ne_same plain_ticks (by omega)))) (not_ok (x := true) (of_ok ((call_ok (ds := [encT ws, encBs bs]) rfl).trans (are_bends_ok hb)))))).trans rfl
  exact (kw_ok (ds := [encT ws, .int base, encBs bs]) (es := [nI n]) rfl rfl).trans (lengths_eq h hb (by omega) (by omega) (by omega))
theorem sm_bound {ws : List W} {b : Nat} : ∀ bs : List Bd, (∀ x ∈ bs, -3 ≤ x.2 ∧ x.2 ≤ 3) → -(3 * (bs.length : Int)) ≤ sm ws bs b ∧ sm ws bs b ≤ 3 * bs.length
  | [], _ => by show -(3 * (0 : Int)) ≤ 0 ∧ (0 : Int) ≤ 3 * 0; omega
  | x :: bs, h => by
    have h1 := h x List.mem_cons_self
    have ih := sm_bound (ws := ws) (b := b) bs fun y hy => h y (List.mem_cons_of_mem _ hy)
    rw [sm_cons, List.length_cons]
    push_cast
    split <;> omega
theorem cut_to {ds : List D} {i : Nat} (h : i ≤ ds.length) : cutD ds none (some (i : Int)) = ds.take i := by
  unfold cutD
  rw [HT.sIx_nat, HT.sIx_none, List.drop_zero, Nat.sub_zero]
  congr 1
  omega
theorem cut_from {ds : List D} {i : Nat} (h : i ≤ ds.length) : cutD ds (some (i : Int)) none = ds.drop i := by
  unfold cutD
  rw [HT.sIx_nat, HT.sIx_none]
  have e : min i ds.length = i := by omega
  rw [e, List.take_of_length_le (by rw [List.length_drop]; omega)]
def bump (f : Nat → Int) (at_ : Nat) (b : Nat) : Int := f b + (if b = at_ then 1 else 0)
theorem bump_list {base : Int} {f : Nat → Int} {n i : Nat} (hi : i < n) : (tkI base f n).take i ++ [base + f i + 1] ++ (tkI base f n).drop (i + 1) = tkI base (bump f i) n := by
  refine List.ext_getElem? fun j => ?_
  have ln : (tkI base f n).length = n := by rw [List.length_map, List.length_range]
  have lt : ((tkI base f n).take i).length = i := by rw [List.length_take, ln]; omega
  have rhs : ∀ g : Nat → Int, (tkI base g n)[j]? = if j < n then some (base + g j) else none := fun g => by
    rw [List.getElem?_map]
    by_cases hj : j < n
    · rw [List.getElem?_range hj, if_pos hj]; rfl
    · rw [List.getElem?_eq_none (by rw [List.length_range]; omega), if_neg hj]; rfl
  rw [rhs]
  rcases Nat.lt_trichotomy j i with h | h | h
  · rw [List.getElem?_append_left (by rw [List.length_append, lt]; simp; omega), List.getElem?_append_left (by rw [lt]; exact h), List.getElem?_take_of_lt h, rhs, if_pos (by omega), if_pos (by omega)]
    unfold bump
    rw [if_neg (by omega), Int.add_zero]
  · subst h
    rw [List.getElem?_append_left (by rw [List.length_append, lt]; simp), List.getElem?_append_right (by rw [lt]; exact Nat.le_refl _), lt, Nat.sub_self, if_pos hi]
    unfold bump
    rw [if_pos rfl, ← Int.add_assoc]; rfl
  · rw [List.getElem?_append_right (by rw [List.length_append, lt]; simp; omega), List.getElem?_drop, List.length_append, lt, List.length_singleton]
    rw [show i + 1 + (j - (i + 1)) = j by omega, rhs]
    unfold bump
    rw [if_neg (show ¬ j = i by omega), Int.add_zero]
theorem bump_ev {base : Int} {f : Nat → Int} {n i : Nat} (hi : i < n) (hn : n ≤ 13) {ρ : En} (e8 : getD ρ 8 = some (tkL base f n)) (e9 : getD ρ 9 = some (nI i)) :
    eBin dAdd (eBin dAdd (eSl (eVar 8) none (some (eVar 9))) (eLst (lCons (eBin dAdd (eBin dIx (eVar 8) (eVar 9)) (eC (.int 1))) lNil))) (eSl (eVar 8) (some (eBin dAdd (eVar 9) (eC (.int 1)))) none) ρ = M.pure (tkL base (bump f i) n) := by
  have ln : ((tkI base f n).map PyData.int).length = n := by rw [List.length_map, List.length_map, List.length_range]
  have s1 : eSl (eVar 8) none (some (eVar 9)) ρ = M.pure (.list (((tkI base f n).take i).map .int)) := by
    unfold eSl
    rw [var_ok e8, M.pure_bind]
    dsimp only
    rw [M.pure_bind, var_ok e9, M.pure_bind]
    dsimp only
    rw [M.pure_bind]
    show M.lift (some (PyData.list (cutD ((tkI base f n).map .int) none (some (i : Int))))) = _
    rw [cut_to (by rw [ln]; omega), ← List.map_take]; rfl
  have s2 : eSl (eVar 8) (some (eBin dAdd (eVar 9) (eC (.int 1)))) none ρ = M.pure (.list (((tkI base f n).drop (i + 1)).map .int)) := by
    unfold eSl
    rw [var_ok e8, M.pure_bind]
    dsimp only
    have e2 : eBin dAdd (eVar 9) (eC (.int 1)) ρ = M.pure (nI (i + 1)) := bin_ok (x := nI i) (y := nI 1) (var_ok e9) rfl add_nat
    rw [e2, M.pure_bind]
    dsimp only
    rw [M.pure_bind, M.pure_bind]
    show M.lift (some (PyData.list (cutD ((tkI base f n).map .int) (some ((i + 1 : Nat) : Int)) none))) = _
    rw [cut_from (by rw [ln]; omega), ← List.map_drop]; rfl
  have s3 : eLst (lCons (eBin dAdd (eBin dIx (eVar 8) (eVar 9)) (eC (.int 1))) lNil) ρ = M.pure (.list ([base + f i + 1].map .int)) :=
    lst_ok (xs := [.int (base + f i + 1)]) (one_ok (bin_ok (x := .int (base + f i)) (y := .int 1) (bin_ok (x := tkL base f n) (y := nI i) (var_ok e8) (var_ok e9) (ixD_list (by rw [List.getElem?_map, List.getElem?_map, List.getElem?_range hi]; rfl))) rfl rfl)) (by show 1 ≤ 16777216; omega)
  have lt : ((tkI base f n).take i).length ≤ 13 := by rw [List.length_take, List.length_map, List.length_range]; omega
  have ld : ((tkI base f n).drop (i + 1)).length ≤ 13 := by rw [List.length_drop, List.length_map, List.length_range]; omega
  rw [show tkL base (bump f i) n = .list (((tkI base f n).take i ++ [base + f i + 1] ++ (tkI base f n).drop (i + 1)).map .int) by rw [bump_list hi], List.map_append, List.map_append]
  refine bin_ok (x := .list (((tkI base f n).take i).map .int ++ [base + f i + 1].map .int)) (y := .list (((tkI base f n).drop (i + 1)).map .int)) (bin_ok s1 s3 (add_list ?_)) s2 (add_list ?_)
  · rw [List.length_map, List.length_map, List.length_singleton]; omega
  · rw [List.length_append, List.length_map, List.length_map, List.length_map, List.length_singleton]; omega
/-- perhaps one of the lengths is changed -/
theorem s7_go {k : Nat} {δ : Dice} {ws : List W} {base : Int} (b0 : 20 ≤ base) (b1 : base ≤ 39) {bs : List Bd} (hb : BOk ws bs) {n : Nat} (hn : n ≤ 13) {a7 : Option SV} (v : Valid (k + 2) δ) :
    Good (s__law_right_7 (EA ws base (V (encBs bs)) none none (V (nI n)) a7 (V (tkL base (sm ws bs) n)) none none none none none none none none)) δ fun f δ' => ∃ off a9, f = .nx (EA ws base (V (encBs bs)) none none (V (nI n)) a7 (V (tkL base off n)) a9 none none none none none none none) ∧ TOk base off n ∧ Valid k δ' ∧ (a9 = none ∨ ∃ d, a9 = V d) := by
  have bd : ∀ b, -6 ≤ sm ws bs b ∧ sm ws bs b ≤ 6 := fun b => by
    have := sm_bound (ws := ws) (b := b) bs fun x hx => ⟨(hb.one x hx).2.2.2.1, (hb.one x hx).2.2.2.2⟩
    have := hb.len
    omega
  have t0 : TOk base (sm ws bs) n := ⟨b0, b1, hn, fun b _ => by have := bd b; omega⟩
  have ll : eCallB dLen (lCons (eVar 8) lNil) (EA ws base (V (encBs bs)) none none (V (nI n)) a7 (V (tkL base (sm ws bs) n)) none none none none none none none none) = M.pure (nI n) := (len_L (f := PyData.int) (ws := tkI base (sm ws bs) n) rfl).trans (by rw [List.length_map, List.length_range])
  unfold s__law_right_7
  rw [roll_eq]
  refine Good.sif (Good.band (Good.of (a := decide (0 < n)) (of_ok (bin_ok (x := nI n) (y := nI 0) ll rfl gt_nat)) ⟨fun hq => ?_, fun _ => ?_⟩))
  · have hq := of_decide_eq_true hq
    refine Good.bof (Good.bin (Good.roll (k := k + 1) (m := 3) v rfl rfl (by omega) (by omega) fun r δ1 r0 r1 v1 => Good.of (a := .int 0) rfl ⟨_, eq_int, decide (r = 0), rfl, ?_⟩))
    by_cases hr : r = 0
    · rw [decide_eq_true hr, if_pos rfl]
      refine Good.seq (Good.set (by show 9 < 19; omega) (Good.roll (k := k) (m := n) v1 rfl (one_ok ll) (by omega) (by omega) fun i δ2 i0 i1 v2 => ?_))
      obtain ⟨i, rfl⟩ := Int.eq_ofNat_of_zero_le i0
      have hi : i < n := by omega
      refine Good.of ((set_ok (bump_ev hi hn rfl rfl) (by show 8 < 19; omega)).trans rfl) ⟨bump (sm ws bs) i, V (nI i), rfl, ⟨b0, b1, hn, fun b _ => ?_⟩, v2, .inr ⟨_, rfl⟩⟩
      have := bd b
      unfold bump
      split <;> omega
    · rw [decide_eq_false hr, if_neg Bool.false_ne_true]
      exact Good.of rfl ⟨sm ws bs, none, rfl, t0, v1.less (by omega), .inl rfl⟩
  · rw [if_neg Bool.false_ne_true]
    exact Good.of rfl ⟨sm ws bs, none, rfl, t0, v.less (by omega), .inl rfl⟩
noncomputable abbrev lotsL (ws : List W) (off : Nat → Int) (n most : Nat) : D := .list ((lots ws off n most).map encBs)
noncomputable abbrev EB (ws : List W) (base : Int) (bs : List Bd) (n most : Nat) (off : Nat → Int) (a5 a9 a10 a11 a12 a13 a14 a15 a16 : Option SV) : En := EA ws base (V (encBs bs)) none a5 (V (nI n)) (V (nI most)) (V (tkL base off n)) a9 a10 a11 a12 a13 a14 a15 a16
section
variable {ws : List W} (h : Tr ws) {base : Int} {bs : List Bd} {n most : Nat} {off : Nat → Int} (t : TOk base off n) (hm : most ≤ 2) {a9 : Option SV}
include h t
theorem s8_ok' : s__law_right_8 (EB ws base bs n most off none a9 none none none none none none none) = M.pure (.nx (EB ws base bs n most off none a9 (V (lotsL ws off n most)) none none none none none none)) :=
  (set_ok ((call_ok (ds := [encT ws, .int base, tkL base off n, nI most]) rfl).trans (law_lots_eq h t)) (by show 10 < 19; omega)).trans rfl
include hm
theorem s9_ok : s__law_right_9 (EB ws base bs n most off none a9 (V (lotsL ws off n most)) none none none none none none) = M.pure (.nx (EB ws base bs n most off none a9 (V (lotsL ws off n most)) none none none none none none)) := by
  have st : dSortA [.tuple ((lots ws off n most).map encBs)] = some (.list (sortA ((lots ws off n most).map encBs))) := by
    unfold dSortA
    dsimp only
    rw [if_pos (srtOk_lots ws off n most)]
  have sl : dSortA [.list ((lots ws off n most).map encBs)] = some (.list (sortA ((lots ws off n most).map encBs))) := by
    unfold dSortA
    dsimp only
    rw [if_pos (srtOk_lots ws off n most)]
  refine (if_f (of_ok (bin_ok (callB_ok (one_ok ?_) st) (callB_ok (one_ok rfl) sl) (ne_same (plain_sorted ws off n most) (by omega))))).trans rfl
  exact (kw_ok (ds := [encT ws, .int base, tkT base off n]) (es := [nI most]) (cons_ok rfl (cons_ok rfl (one_ok (tup_ev rfl)))) rfl).trans (expl_eq h t hm)
omit h t hm in
theorem filter_all {α : Type} {p : α → Bool} : ∀ l : List α, decide ((l.filter p).length = l.length) = l.all p
  | [] => rfl
  | x :: l => by
    have ih := filter_all (p := p) l
    rw [List.all_cons]
    cases hx : p x with
    | true =>
      rw [List.filter_cons_of_pos hx, List.length_cons, List.length_cons, Bool.true_and, ← ih]
      exact decide_eq_decide.mpr (by omega)
    | false =>
      rw [List.filter_cons_of_neg (by rw [hx]; exact Bool.false_ne_true), List.length_cons, Bool.false_and]
      have := List.length_filter_le p l
      exact decide_eq_false (by omega)
omit hm in
theorem s11_ok : s__law_right_11 (EB ws base bs n most off none a9 (V (lotsL ws off n most)) (some (.own [])) none none none none none) = M.pure (.nx (EB ws base bs n most off none a9 (V (lotsL ws off n most)) (some (.own ((sure ws off n most).map encK))) none none none none none)) := by
  have hn := t.n1
  have ll := lots_len h (off := off) (most := most) hn
  have li : ∀ l ∈ lots ws off n most, IsLot l := fun l hl => lot_is hl
  unfold sure inAll lotsL
  generalize lots ws off n most = ls at *
  have it : itS (eIf (bOf (eBin dGt (eCallB dLen (lCons (eVar 10) lNil)) (eC (.int 0)))) (eBin dIx (eVar 10) (eC (.int 0))) (eTup lNil)) (EB ws base bs n most off none a9 (V (.list (ls.map encBs))) (some (.own [])) none none none none none) = M.pure ((ls.headD []).map encB) := by
    have tt : bOf (eBin dGt (eCallB dLen (lCons (eVar 10) lNil)) (eC (.int 0))) (EB ws base bs n most off none a9 (V (.list (ls.map encBs))) (some (.own [])) none none none none none) = M.pure (decide (0 < ls.length)) := of_ok (bin_ok (x := nI ls.length) (y := nI 0) (len_L rfl) rfl gt_nat)
    cases ls with
    | nil => exact seqS_tup ((ife_f tt).trans (tup_ok (xs := []) rfl (by show 0 ≤ 16777216; omega)))
    | cons l r =>
      rw [decide_eq_true (by simp)] at tt
      exact seqS_tup ((ife_t tt).trans (bin_ok (x := .list ((l :: r).map encBs)) (y := nI 0) rfl rfl (ixD_list (i := 0) rfl)))
  have hd : ∀ x ∈ ls.headD [], (ls.headD []).length ≤ 2 := fun x hx => by
    cases ls with
    | nil => cases hx
    | cons l r => exact (li l List.mem_cons_self).len
  have hd2 : (ls.headD []).length ≤ 2 := by
    cases ls with
    | nil => show 0 ≤ 2; omega
    | cons l r => exact (li l List.mem_cons_self).len
  unfold s__law_right_11
  refine (for_ok it).trans ?_
  refine (for_fold (b := y__law_right_2) encB (fun acc : List K => EB ws base bs n most off none a9 (V (.list (ls.map encBs))) (some (.own (acc.map encK))) none none none none none) (fun acc x => acc ++ if (ls.all fun l => decide (x.1 ∈ ks l)) = true then [x.1] else []) (fun r acc => acc.length + r.length ≤ 2) (ls.headD []) [] _ (fun x r acc hi => ?_) (by rw [List.length_nil]; omega) rfl).trans ?_
  · rw [List.length_cons] at hi
    have tp : eTup (lCons (eVar 5) (lCons (eVar 12) lNil)) (EB ws base bs n most off (V (nI x.1.1)) a9 (V (.list (ls.map encBs))) (some (.own (acc.map encK))) (V (nI x.1.2)) (V (.int x.2)) none none none) = M.pure (encK x.1) := tup_ok (xs := [nI x.1.1, nI x.1.2]) rfl (by show 2 ≤ 16777216; omega)
    have tt : bOf (eBin dEq (eCallB dLen (lCons (eComp (.n 17) (itS (eVar 10)) (bOf (eBin dIn (eTup (lCons (eVar 5) (lCons (eVar 12) lNil))) (eComp (.n 18) (itS (eVar 17)) bYes (eSl (eVar 18) none (some (eC (.int 2)))) [18]))) (eC (.int 1)) [17]) lNil)) (eCallB dLen (lCons (eVar 10) lNil))) (EB ws base bs n most off (V (nI x.1.1)) a9 (V (.list (ls.map encBs))) (some (.own (acc.map encK))) (V (nI x.1.2)) (V (.int x.2)) none none none) = M.pure (ls.all fun l => decide (x.1 ∈ ks l)) := by
      rw [← filter_all]
      refine of_ok (bin_ok (x := nI (ls.filter fun l => decide (x.1 ∈ ks l)).length) (y := nI ls.length) (callB_ok (ds := [.list ((ls.filter fun l => decide (x.1 ∈ ks l)).map fun _ => .int 1)]) (one_ok ?_) (by show some (PyData.int ((((ls.filter fun l => decide (x.1 ∈ ks l)).map fun _ => PyData.int 1).length : Nat) : Int)) = _; rw [List.length_map])) (len_L rfl) eq_nat)
      refine comp_ok (ds := ls.map encBs) (seqS_list rfl) (comp_go encBs (fun l => decide (x.1 ∈ ks l)) (fun _ => PyData.int 1) (fun l => setV (EB ws base bs n most off (V (nI x.1.1)) a9 (V (.list (ls.map encBs))) (some (.own (acc.map encK))) (V (nI x.1.2)) (V (.int x.2)) none none none) 17 (encBs l)) ls fun l hl => ⟨rfl, of_ok (bin_ok (x := encK x.1) (y := .list ((ks l).map encK)) (tup_ok (xs := [nI x.1.1, nI x.1.2]) rfl (by show 2 ≤ 16777216; omega)) (two_ev (li l hl).len (seqS_tup rfl) (fun y => setV (setV (EB ws base bs n most off (V (nI x.1.1)) a9 (V (.list (ls.map encBs))) (some (.own (acc.map encK))) (V (nI x.1.2)) (V (.int x.2)) none none none) 17 (encBs l)) 18 (encB y)) fun y => ⟨rfl, rfl⟩) in_keys), fun _ => rfl⟩) (by rw [sizeLine_eq, List.length_map]; exact Nat.le_trans (List.length_filter_le _ _) (by omega))
    cases hq : ls.all fun l => decide (x.1 ∈ ks l) with
    | false =>
      rw [hq] at tt
      refine ⟨EB ws base bs n most off (V (nI x.1.1)) a9 (V (.list (ls.map encBs))) (some (.own (acc.map encK))) (V (nI x.1.2)) (V (.int x.2)) none none none, _, rfl, (if_f tt).trans rfl, ?_, ?_⟩
      · rw [if_neg Bool.false_ne_true, List.append_nil]; rfl
      · rw [if_neg Bool.false_ne_true, List.append_nil]; omega
    | true =>
      rw [hq] at tt
      refine ⟨EB ws base bs n most off (V (nI x.1.1)) a9 (V (.list (ls.map encBs))) (some (.own (acc.map encK))) (V (nI x.1.2)) (V (.int x.2)) none none none, EB ws base bs n most off (V (nI x.1.1)) a9 (V (.list (ls.map encBs))) (some (.own ((acc ++ [x.1]).map encK))) (V (nI x.1.2)) (V (.int x.2)) none none none, rfl, (if_t tt).trans ?_, ?_, ?_⟩
      · refine (app_ok (ds := acc.map encK) rfl tp (by rw [sizeLine_eq, List.length_map]; omega)).trans ?_
        rw [List.map_append]; rfl
      · rw [if_pos rfl]; rfl
      · rw [if_pos rfl, List.length_append]; simp; omega
  · have go : ∀ (l : List Bd) (acc : List K), l.foldl (fun acc x => acc ++ if (ls.all fun l => decide (x.1 ∈ ks l)) = true then [x.1] else []) acc = acc ++ (ks l).filter fun k => ls.all fun l => decide (k ∈ ks l) := fun l => by
      induction l with
      | nil => intro acc; show acc = acc ++ []; rw [List.append_nil]
      | cons x l ih =>
        intro acc
        rw [List.foldl_cons, ih]
        show _ = acc ++ (x.1 :: ks l).filter _
        cases hq : ls.all fun l => decide (x.1 ∈ ks l) with
        | true => rw [List.filter_cons_of_pos (p := fun k => ls.all fun l => decide (k ∈ ks l)) hq, if_pos rfl, List.append_assoc]; rfl
        | false => rw [List.filter_cons_of_neg (p := fun k => ls.all fun l => decide (k ∈ ks l)) (by rw [hq]; exact Bool.false_ne_true), if_neg Bool.false_ne_true, List.append_nil]
    rw [go, List.nil_append]
theorem s12_ok : s__law_right_12 (EB ws base bs n most off none a9 (V (lotsL ws off n most)) (some (.own ((sure ws off n most).map encK))) none none none none none) = M.pure (.nx (EB ws base bs n most off none a9 (V (lotsL ws off n most)) (V (.list ((sure ws off n most).map encK))) none none none none none)) := by
  show sIf (bOf (eBin dNe (eCallKw m_surely_bent 1 (lCons (eVar 1) (lCons (eVar 2) (lCons (eCallB dTuple (lCons (eVar 8) lNil)) lNil))) (lCons (eVar 7) lNil)) (eCallB dTuple (lCons (eVar 11) lNil)))) (sRet (eC (.bool false))) sNop (EB ws base bs n most off none a9 (V (lotsL ws off n most)) (V (.list ((sure ws off n most).map encK))) none none none none none) = _
  have pl : plain 2 (.tuple ((sure ws off n most).map encK)) = true := plains_of (n := 1) fun d hd => by
    obtain ⟨k, _, rfl⟩ := List.mem_map.mp hd
    exact plain_K k
  refine (if_f (of_ok (bin_ok (x := .tuple ((sure ws off n most).map encK)) (y := .tuple ((sure ws off n most).map encK)) ?_ (callB_ok (ds := [.list ((sure ws off n most).map encK)]) rfl rfl) (ne_same pl (by omega))))).trans rfl
  exact (kw_ok (ds := [encT ws, .int base, tkT base off n]) (es := [nI most]) (cons_ok rfl (cons_ok rfl (one_ok (tup_ev rfl)))) rfl).trans (sure_eq h t hm)
omit t hm in
theorem s13_ok (hb : BOk ws bs) {a11 : Option SV} : s__law_right_13 (EB ws base bs n most off none a9 (V (lotsL ws off n most)) a11 none none none none none) = M.pure (.nx (EB ws base bs n most off none a9 (V (lotsL ws off n most)) a11 none none none none none)) := by
  have c1 := cyc_le h.one (by have := h.len; omega)
  refine (if_f (of_ok (bin_ok (x := .int (rsum ws bs)) (y := .int (rsum ws bs)) ?_ (callB_ok (ds := [.list ((lenT ws 0 bs (cyc ws)).map .int)]) (one_ok ?_) ?_) (ne_same (n := 0) rfl (by omega))))).trans rfl
  · exact (kw_ok (ds := [encT ws]) (es := [encBs bs]) rfl rfl).trans (round_error_eq h hb)
  · exact (call_ok (ds := [encT ws, .int 0, encBs bs, nI (cyc ws)]) (cons_ok rfl (cons_ok rfl (cons_ok rfl (one_ok ((call_ok (ds := [encT ws]) rfl).trans (law_cycle_eq h))))))).trans (law_len_eq h (fun x hx => (hb.one x hx).1) (by have := hb.len; omega) (by omega))
  · rw [sum_int, round_sum h hb]
end
end Lay.K02

set_option Elab.async false
set_option linter.all false
set_option maxRecDepth 100000
set_option maxHeartbeats 2000000
/-! k02: what is refused; the whole -/
namespace Lay.K02
open PySem PySem.Spec PyProof.Rows L2 Lay Lay.K01

/-! ### what is no bend -/
theorem bend_1 {ws : List W} (x : Bd) : s_is_bend_1 [V (encT ws), V (encB x), none] = M.pure (.nx [V (encT ws), V (encB x), none]) := (if_f (or_f rfl (or_f rfl (not_ok (x := true) (of_ok (all_ok rfl rfl)))))).trans rfl
theorem bend_no1 {ws : List W} {x : Bd} (h1 : ws.length ≤ x.1.1) : m_is_bend [encT ws, encB x] = M.pure (.bool false) := by
  refine mkF_rt ?_
  refine (seq_nx (bend_1 x)).trans ?_
  refine ret_ok (eand_ok (x := false) (y := false) ?_ fun z => by cases z)
  refine chain_ok (x := .int 0) (y := nI x.1.1) (z := nI ws.length) (p := true) (q := false) rfl rfl ?_ (len_T rfl) ?_
  · rw [le_int, decide_eq_true (by omega)]
  · rw [lt_nat, decide_eq_false (by omega)]
theorem bend_no2 {ws : List W} {x : Bd} (h1 : x.1.1 < ws.length) (h2 : (ws.getD x.1.1 (2, 1)).1 ≤ x.1.2) : m_is_bend [encT ws, encB x] = M.pure (.bool false) := by
  refine mkF_rt ?_
  refine (seq_nx (bend_1 x)).trans ?_
  refine ret_ok (eand_ok (x := true) (y := false) ?_ fun _ => eand_ok (x := false) (y := false) ?_ fun z => by cases z)
  · refine chain_ok (x := .int 0) (y := nI x.1.1) (z := nI ws.length) (p := true) (q := true) rfl rfl ?_ (len_T rfl) ?_
    · rw [le_int, decide_eq_true (by omega)]
    · rw [lt_nat, decide_eq_true h1]
  · refine chain_ok (x := .int 0) (y := nI x.1.2) (z := nI (ws.getD x.1.1 (2, 1)).1) (p := true) (q := false) rfl rfl ?_ ?_ ?_
    · rw [le_int, decide_eq_true (by omega)]
    · exact bin_ok (x := encW (ws.getD x.1.1 (2, 1))) (y := .int 0) (bin_ok (x := encT ws) (y := nI x.1.1) rfl rfl (wheel_ix h1)) rfl rfl
    · rw [lt_nat, decide_eq_false (by omega)]
theorem bend_no3 {ws : List W} {k : K} (h1 : k.1 < ws.length) (h2 : k.2 < (ws.getD k.1 (2, 1)).1) : m_is_bend [encT ws, encB (k, 0)] = M.pure (.bool false) := by
  refine mkF_rt ?_
  refine (seq_nx (bend_1 (k, 0))).trans ?_
  refine ret_ok (eand_ok (x := true) (y := false) ?_ fun _ => eand_ok (x := true) (y := false) ?_ fun _ => rfl)
  · refine chain_ok (x := .int 0) (y := nI k.1) (z := nI ws.length) (p := true) (q := true) rfl rfl ?_ (len_T rfl) ?_
    · rw [le_int, decide_eq_true (by omega)]
    · rw [lt_nat, decide_eq_true h1]
  · refine chain_ok (x := .int 0) (y := nI k.2) (z := nI (ws.getD k.1 (2, 1)).1) (p := true) (q := true) rfl rfl ?_ ?_ ?_
    · rw [le_int, decide_eq_true (by omega)]
    · exact bin_ok (x := encW (ws.getD k.1 (2, 1))) (y := .int 0) (bin_ok (x := encT ws) (y := nI k.1) rfl rfl (wheel_ix h1)) rfl rfl
    · rw [lt_nat, decide_eq_true h2]
/-- one thing that is no bend -/
theorem bends_no1 {ws : List W} {d : D} (h : m_is_bend [encT ws, d] = M.pure (.bool false)) : m_are_bends [encT ws, .tuple [d]] = M.pure (.bool false) := by
  refine mkF_rt ?_
  refine seq_rt ((if_t (or_f rfl (or_f rfl (not_ok (x := false) (of_ok ?_))))).trans rfl)
  exact all_ok rfl (all_go (tg := .n 1) (fun d : D => d) (fun _ => false) (fun c => [V (encT ws), V c]) [d] fun c hc => ⟨rfl, by rw [List.mem_singleton.mp hc]; exact (call_ok (ds := [encT ws, d]) rfl).trans h⟩)
/-- two bends, not in order -/
theorem bends_no2 {ws : List W} {x y : Bd} (h1 : m_is_bend [encT ws, encB x] = M.pure (.bool true)) (h2 : m_is_bend [encT ws, encB y] = M.pure (.bool true)) (h : ¬ klt x.1 y.1) : m_are_bends [encT ws, encBs [x, y]] = M.pure (.bool false) := by
  refine mkF_rt ?_
  have s1 : s_are_bends_1 ([encT ws, encBs [x, y]].map (fun d => some (.v d)) ++ List.replicate (4 - 2) none) = M.pure (.nx [V (encT ws), V (encBs [x, y]), none, none]) := by
    refine (if_f (or_f rfl (or_f rfl (not_ok (x := true) (of_ok ?_))))).trans rfl
    have e : ([x, y] : List Bd).all (fun _ => true) = true := rfl
    rw [← e]
    refine all_ok rfl (all_go encB (fun _ => true) (fun c => [V (encT ws), V (encB c)]) [x, y] fun c hc => ⟨rfl, ?_⟩)
    rcases List.mem_cons.mp hc with rfl | hc
    · exact (call_ok (ds := [encT ws, encB c]) rfl).trans h1
    · rw [List.mem_singleton.mp hc]; exact (call_ok (ds := [encT ws, encB y]) rfl).trans h2
  refine (seq_nx s1).trans ?_
  refine ret_ok (d := .bool false) ?_
  have e : (List.range 1).all (fun _ => false) = false := rfl
  rw [← e]
  refine all_ok (r2_ok (a := 1) (n := 2) rfl (len_T (f := encB) (ws := [x, y]) rfl) (by omega) (by omega)) (all_go (fun i : Nat => nI (1 + i)) (fun _ => false) (fun i => [V (encBs [x, y]), V (nI (1 + i))]) (List.range 1) fun i hi => ⟨rfl, ?_⟩)
  have hi : i = 0 := by have := List.mem_range.mp hi; omega
  subst hi
  have h' : ¬ (x.1.1 < y.1.1 ∨ x.1.1 = y.1.1 ∧ x.1.2 < y.1.2) := h
  refine bin_ok (x := encK x.1) (y := encK y.1) (sl2 (bin_ok (x := encBs [x, y]) (y := nI 0) rfl rfl (ixD_tup (i := 0) rfl))) (sl2 (bin_ok (x := encBs [x, y]) (y := nI 1) rfl rfl (ixD_tup (i := 1) rfl))) ?_
  rw [ltK, decide_eq_false h']
abbrev tri (a b c : Int) : D := .tuple [.int a, .int b, .int c]
abbrev bads : List D := [.none, .list [], .tuple [.tuple [.int 0, .int 0]], .tuple [tri 9 0 1], .tuple [tri 0 61 1], .tuple [tri 0 0 0], .tuple [tri 0 1 1, tri 0 0 1], .tuple [tri 0 0 1, tri 0 0 1]]
theorem w0 {ws : List W} (h : Tr ws) : 0 < ws.length ∧ 2 ≤ (ws.getD 0 (2, 1)).1 ∧ (ws.getD 0 (2, 1)).1 ≤ 9 := by
  have hp := h.pos
  have m : ws.getD 0 (2, 1) ∈ ws := by
    rw [List.getD_eq_getElem?_getD, List.getElem?_eq_getElem (show 0 < ws.length by omega)]; exact List.getElem_mem _
  have k := h.one _ m
  exact ⟨by omega, k.1, k.2.1⟩
theorem bad_no {ws : List W} (h : Tr ws) {b : D} (hb : b ∈ bads) : m_are_bends [encT ws, b] = M.pure (.bool false) := by
  obtain ⟨l0, t2, t9⟩ := w0 h
  have hl := h.len
  have ok : ∀ t : Nat, t < 2 → m_is_bend [encT ws, encB ((0, t), 1)] = M.pure (.bool true) := fun t ht => is_bend_ok (x := ((0, t), 1)) l0 (show t < (ws.getD 0 (2, 1)).1 by omega) (by show (1 : Int) ≠ 0; omega) (by show (-3 : Int) ≤ 1; omega) (by show (1 : Int) ≤ 3; omega)
  simp only [bads, List.mem_cons, List.not_mem_nil, or_false] at hb
  rcases hb with rfl | rfl | rfl | rfl | rfl | rfl | rfl | rfl
  · exact mkF_rt (seq_rt rfl)
  · exact mkF_rt (seq_rt rfl)
  · exact bends_no1 (mkF_rt (seq_rt rfl))
  · exact bends_no1 (bend_no1 (x := ((9, 0), 1)) (by show ws.length ≤ 9; omega))
  · exact bends_no1 (bend_no2 (x := ((0, 61), 1)) l0 (show (ws.getD 0 (2, 1)).1 ≤ 61 by omega))
  · exact bends_no1 (bend_no3 (k := (0, 0)) l0 (show 0 < (ws.getD 0 (2, 1)).1 by omega))
  · exact bends_no2 (x := ((0, 1), 1)) (y := ((0, 0), 1)) (ok 1 (by omega)) (ok 0 (by omega)) (fun z => by rcases z with z | ⟨_, z⟩ <;> exact absurd z (by decide))
  · exact bends_no2 (x := ((0, 0), 1)) (y := ((0, 0), 1)) (ok 0 (by omega)) (ok 0 (by omega)) (fun z => by rcases z with z | ⟨_, z⟩ <;> exact absurd z (by decide))
/-! ### what is told -/
section
variable {ws : List W} (h : Tr ws) {base : Int} (b0 : 20 ≤ base) (b1 : base ≤ 39)
theorem tell1 : m_lengths [.tuple [], .none, .none, .none] = M.err "train" := by
  refine mkF_err (seq_err (exp_err ?_))
  refine (call_ok (ds := [.tuple [], .str "train"]) rfl).trans (mkF_err ?_)
  exact (if_t (not_ok (x := false) (of_ok ((call_ok (ds := [.tuple []]) rfl).trans (mkF_rt rfl))))).trans (raise_ok rfl (by decide))
include h
theorem tell2 : m_lengths [encT ws, .int (-1), .none, .none] = M.err "base" := by
  refine mkF_err ((seq_nx (need_e h rfl)).trans (seq_err (exp_err ?_)))
  exact (call_ok (ds := [.int (-1), .str "base", .int 0, .int 1000000]) rfl).trans (g_need_low (by omega) (by decide))
include b0 b1
theorem base_ok {ρ : En} (e : getD ρ 1 = some (.int base)) : sExp (eCall m_need_integer (lCons (eVar 1) (lCons (eC (.str "base")) (lCons (eC (.int 0)) (lCons (eC (.int 1000000)) lNil))))) ρ = M.pure (.nx ρ) :=
  exp_ok ((call_ok (ds := [.int base, .str "base", .int 0, .int 1000000]) (cons_ok (var_ok e) rfl)).trans (need_ok _ (by omega) (by omega)))
theorem tell3 {b : D} (hb : b ∈ bads) : m_lengths [encT ws, .int base, b, .none] = M.err "bends" := by
  refine mkF_err ((seq_nx (need_e h rfl)).trans ((seq_nx (base_ok h b0 b1 rfl)).trans (seq_err ?_)))
  exact (if_t (not_ok (x := false) (of_ok ((call_ok (ds := [encT ws, b]) rfl).trans (bad_no h hb))))).trans (raise_ok rfl (by decide))
theorem tell4 {bs : List Bd} (hb : BOk ws bs) : m_lengths [encT ws, .int base, encBs bs, .int 121] = M.err "many" := by
  refine mkF_err ((seq_nx (need_e h rfl)).trans ((seq_nx (base_ok h b0 b1 rfl)).trans ((seq_nx (ρ' := [V (encT ws), V (.int base), V (encBs bs), V (.int 121), none, none, none, none, none, none]) ?_).trans (seq_err (exp_err ?_)))))
  · exact (if_f (not_ok (x := true) (of_ok ((call_ok (ds := [encT ws, encBs bs]) rfl).trans (are_bends_ok hb))))).trans rfl
  · exact (call_ok (ds := [.int 121, .str "many", .int 0, .int 120]) rfl).trans (g_need_high (by omega) (by omega) (by decide))
theorem ticks_err {d : D} (hd : m_are_ticks [d] = M.pure (.bool false)) {ρ : En} (e0 : getD ρ 0 = some (encT ws)) (e1 : getD ρ 1 = some (.int base)) (e2 : getD ρ 2 = some d) : sExp (eCall m_need_ticks (lCons (eVar 0) (lCons (eVar 1) (lCons (eVar 2) lNil)))) ρ = M.err "ticks" := by
  refine exp_err ((call_ok (ds := [encT ws, .int base, d]) (cons_ok (var_ok e0) (cons_ok (var_ok e1) (one_ok (var_ok e2))))).trans ?_)
  refine mkF_err ((seq_nx (need_e h rfl)).trans ((seq_nx (base_ok h b0 b1 rfl)).trans ?_))
  exact (if_t (not_ok (x := false) (of_ok ((call_ok (ds := [d]) rfl).trans hd)))).trans (raise_ok rfl (by decide))
theorem tell5 : m_explanations [encT ws, .int base, .list [.int 1], .none] = M.err "ticks" := mkF_err (seq_err (ticks_err h b0 b1 (mkF_rt (seq_rt rfl)) rfl rfl rfl))
theorem tell6 : m_explanations [encT ws, .int base, .tuple [.int 1], .int 3] = M.err "most" := by
  refine mkF_err ((seq_nx (ρ' := [V (encT ws), V (.int base), V (.tuple [.int 1]), V (.int 3), none, none, none, none, none, none, none, none, none, none, none]) (exp_ok (d := .none) ((call_ok (ds := [encT ws, .int base, .tuple [.int 1]]) rfl).trans ?_))).trans (seq_err (exp_err ?_)))
  · refine mkF_nx (ρ := [V (encT ws), V (.int base), V (.tuple [.int 1])]) ((seq_nx (need_e h rfl)).trans ((seq_nx (base_ok h b0 b1 rfl)).trans ?_))
    exact (if_f (not_ok (x := true) (of_ok ((call_ok (ds := [.tuple [.int 1]]) rfl).trans (are_ticks_ok (l := [1]) (by show 1 ≤ 120; omega) fun i hi => by rw [List.mem_singleton.mp hi]; omega))))).trans rfl
  · exact (call_ok (ds := [.int 3, .str "most", .int 0, .int 2]) rfl).trans (g_need_high (by omega) (by omega) (by decide))
theorem tell7 : m_surely_bent [encT ws, .int base, .tuple [.bool true], .int 1] = M.err "ticks" := mkF_err (seq_err (ticks_err h b0 b1 (mkF_rt rfl) rfl rfl rfl))
omit b0 b1 in
theorem tell8 {b : D} (hb : b ∈ bads) : m_round_error [encT ws, b] = M.err "bends" := by
  refine mkF_err ((seq_nx (need_e h rfl)).trans (seq_err ?_))
  exact (if_t (not_ok (x := false) (of_ok ((call_ok (ds := [encT ws, b]) rfl).trans (bad_no h hb))))).trans (raise_ok rfl (by decide))
abbrev tolds : List Str := ["train", "base", "bends", "many", "ticks", "most", "ticks", "bends"]
theorem s15_ok {bs : List Bd} (hb : BOk ws bs) {bd : D} (hbd : bd ∈ bads) {n most : Nat} {off : Nat → Int} {a5 a9 a10 a11 : Option SV} : s__law_right_15 (EB ws base bs n most off a5 a9 a10 a11 none none (V bd) none none) = M.pure (.nx (EB ws base bs n most off a5 a9 a10 a11 none none (V bd) (V (.list (tolds.map .str))) none)) := by
  have hV : ∀ ρ : En, ρ = onlyV (EB ws base bs n most off a5 a9 a10 a11 none none (V bd) none none) → getD ρ 1 = some (encT ws) ∧ getD ρ 2 = some (.int base) ∧ getD ρ 3 = some (encBs bs) ∧ getD ρ 14 = some bd := fun ρ e => by subst e; exact ⟨rfl, rfl, rfl, rfl⟩
  obtain ⟨e1, e2, e3, e14⟩ := hV _ rfl
  refine (set_ok (d := .list (tolds.map .str)) (lst_ok (xs := tolds.map .str) ?_ (by show 8 ≤ 16777216; omega)) (by show 15 < 19; omega)).trans rfl
  refine cons_ok (told_ok ((call_ok (ds := [.tuple [], .none, .none, .none]) (cons_ok (tup_ok (xs := []) rfl (by show 0 ≤ 16777216; omega)) rfl)).trans tell1)) ?_
  refine cons_ok (told_ok ((call_ok (ds := [encT ws, .int (-1), .none, .none]) (cons_ok (var_ok e1) rfl)).trans (tell2 h))) ?_
  refine cons_ok (told_ok ((call_ok (ds := [encT ws, .int base, bd, .none]) (cons_ok (var_ok e1) (cons_ok (var_ok e2) (cons_ok (var_ok e14) rfl)))).trans (tell3 h b0 b1 hbd))) ?_
  refine cons_ok (told_ok ((call_ok (ds := [encT ws, .int base, encBs bs, .int 121]) (cons_ok (var_ok e1) (cons_ok (var_ok e2) (cons_ok (var_ok e3) rfl)))).trans (tell4 h b0 b1 hb))) ?_
  refine cons_ok (told_ok ((call_ok (ds := [encT ws, .int base, .list [.int 1], .none]) (cons_ok (var_ok e1) (cons_ok (var_ok e2) (cons_ok (lst_ok (xs := [.int 1]) rfl (by show 1 ≤ 16777216; omega)) rfl)))).trans (tell5 h b0 b1))) ?_
  refine cons_ok (told_ok ((call_ok (ds := [encT ws, .int base, .tuple [.int 1], .int 3]) (cons_ok (var_ok e1) (cons_ok (var_ok e2) (cons_ok (tup_ok (xs := [.int 1]) rfl (by show 1 ≤ 16777216; omega)) rfl)))).trans (tell6 h b0 b1))) ?_
  refine cons_ok (told_ok ((call_ok (ds := [encT ws, .int base, .tuple [.bool true], .int 1]) (cons_ok (var_ok e1) (cons_ok (var_ok e2) (cons_ok (tup_ok (xs := [.bool true]) rfl (by show 1 ≤ 16777216; omega)) rfl)))).trans (tell7 h b0 b1))) ?_
  exact one_ok (told_ok ((call_ok (ds := [encT ws, bd]) (cons_ok (var_ok e1) (one_ok (var_ok e14)))).trans (tell8 h hbd)))
end
theorem right_fair : Fair m__law_right := fun x y => by
  refine lawD (n := 18) (b := b__law_right) ?_
  have v0 : Valid 100 [x, y, 0] := ⟨x, y, 0, rfl, by omega, by omega⟩
  unfold b__law_right
  -- the train, the base
  refine Good.seq ?_
  unfold s__law_right_1
  refine Good.par3T (by show 1 < 19; omega) (by show 2 < 19; omega) (by show 3 < 19; omega) rfl ?_
  refine Good.callD rfl ?_
  refine Good.of (a := [.int 2]) rfl ?_
  refine (train_go (k := 95) v0).imp fun d δ1 ⟨ws, e, h, v1⟩ => ?_
  subst e
  rw [roll_eq]
  refine Good.bin (Good.of (a := .int 20) rfl (Good.roll (k := 94) (m := 20) v1 rfl rfl (by omega) (by omega) fun r δ2 r0 r1 v2 => ⟨.int (20 + r), rfl, ?_⟩))
  have b0 : 20 ≤ 20 + r := by omega
  have b1 : 20 + r ≤ 39 := by omega
  generalize 20 + r = base at b0 b1
  -- the bends
  refine Good.seq ?_
  unfold s__law_right_2
  rw [roll_eq]
  refine Good.sfor (Good.r1 (Good.roll (k := 93) (m := 3) v2 rfl rfl (by omega) (by omega) fun q δ3 q0 q1 v3 => ?_))
  obtain ⟨q, rfl⟩ := Int.eq_ofNat_of_zero_le q0
  refine ⟨q, rfl, by omega, ?_⟩
  refine Good.for (tg := .n 4) (enc := fun i : Nat => PyData.int (i : Nat)) (fun l ρ δ => ∃ bl : List Bd, clr ρ [4, 5] = EA ws base (some (.dT (rowB bl))) none none none none none none none none none none none none none ∧ (bl.map (·.1)).Nodup ∧ (∀ x ∈ bl, x.1.1 < ws.length ∧ x.1.2 < (ws.getD x.1.1 (2, 1)).1 ∧ x.2 ≠ 0 ∧ -3 ≤ x.2 ∧ x.2 ≤ 3) ∧ bl.length + l.length ≤ q ∧ Valid (80 + 3 * l.length) δ) (List.range q) _ δ3 ?_ ?_ ⟨[], rfl, List.nodup_nil, fun x hx => (by cases hx), by rw [List.length_range]; simp, v3.less (by rw [List.length_range]; omega)⟩
  · rintro i l ρ δ ⟨bl, e, nd, ok, hl, v⟩
    rw [e]
    rw [List.length_cons] at hl v
    refine ⟨EA ws base (some (.dT (rowB bl))) (V (nI i)) none none none none none none none none none none none none, rfl, ?_⟩
    unfold y__law_right_1
    rw [roll_eq, pick_eq]
    have hp := h.pos
    have h2 := h.len
    refine Good.seq (Good.set (by show 5 < 19; omega) (Good.roll (k := 80 + 3 * l.length + 2) (m := ws.length) (v.less (by omega)) rfl (one_ok (len_T (f := encW) (ws := ws) rfl)) (by omega) (by omega) fun w δ4 w0 w1 v4 => ?_))
    obtain ⟨w, rfl⟩ := Int.eq_ofNat_of_zero_le w0
    have hw : w < ws.length := by omega
    have mw : ws.getD w (2, 1) ∈ ws := by rw [List.getD_eq_getElem?_getD, List.getElem?_eq_getElem hw]; exact List.getElem_mem hw
    have kw := h.one _ mw
    refine Good.tset (kvs := rowB bl) rfl rfl (by rw [List.length_map]; omega) (by rw [List.map_map]; exact List.pairwise_map.mpr ((List.pairwise_map.mp nd).imp fun {a b} h z => h (kI_inj z))) ?_
    refine Good.pick (k := 80 + 3 * l.length + 1) (xs := [.int 1, .int 2, .int 3, .int (-1), .int (-2)]) rfl (Good.of (a := [.list [.int 1, .int 2, .int 3, .int (-1), .int (-2)]]) rfl ⟨rfl, v4⟩) (by simp) (by show 5 ≤ 16777216; omega) fun d δ5 hd v5 => ?_
    obtain ⟨ee, rfl, e0⟩ : ∃ ee : Int, d = .int ee ∧ ee ≠ 0 ∧ -3 ≤ ee ∧ ee ≤ 3 := by
      simp only [List.mem_cons, List.not_mem_nil, or_false] at hd
      rcases hd with rfl | rfl | rfl | rfl | rfl
      · exact ⟨1, rfl, by omega⟩
      · exact ⟨2, rfl, by omega⟩
      · exact ⟨3, rfl, by omega⟩
      · exact ⟨-1, rfl, by omega⟩
      · exact ⟨-2, rfl, by omega⟩
    refine Good.tup (Good.cons (Good.of (a := nI w) rfl (Good.cons (Good.roll (k := 80 + 3 * l.length) (m := (ws.getD w (2, 1)).1) v5 rfl (one_ok (bin_ok (x := encW (ws.getD w (2, 1))) (y := .int 0) (bin_ok (x := encT ws) (y := nI w) rfl rfl (wheel_ix hw)) rfl rfl)) (by have := kw.1; omega) (by have := kw.2.1; omega) fun u δ6 u0 u1 v6 => Good.nil ?_))))
    obtain ⟨u, rfl⟩ := Int.eq_ofNat_of_zero_le u0
    refine ⟨by show 2 ≤ 16777216; omega, kI (w, u), rfl, setB bl (w, u) ee, ?_, setB_keys nd, fun x hx => ?_, ?_, v6⟩
    · show clr (setT _ 3 (putT (rowB bl) (kI (w, u)) (.int ee))) [4, 5] = _
      rw [putT_B]; rfl
    · rcases setB_mem hx with hx | hx
      · exact ok x hx
      · rw [hx]; exact ⟨hw, show u < (ws.getD w (2, 1)).1 by omega, e0⟩
    · have := setB_len (k := (w, u)) (e := ee) bl
      omega
  rintro ρ δ4 ⟨bl, e, nd, ok, hl, v4⟩
  rw [e]
  rw [List.length_nil] at hl v4
  obtain ⟨bs, p, pw, e3⟩ := s3_ok (ws := ws) (base := base) nd (by omega)
  have hb : BOk ws bs := ⟨fun x hx => ok x (p.mem_iff.mp hx), by rw [p.length_eq]; omega, pw⟩
  refine Good.nx e3 ?_
  -- how many beats
  refine Good.seq ?_
  unfold s__law_right_4
  rw [roll_eq]
  refine Good.par (by show 6 < 19; omega) (by show 7 < 19; omega) (Good.roll (k := 79) (m := 14) v4 rfl rfl (by omega) (by omega) fun n δ5 n0 n1 v5 => Good.roll (k := 78) (m := 3) v5 rfl rfl (by omega) (by omega) fun most δ6 m0 m1 v6 => ?_)
  obtain ⟨n, rfl⟩ := Int.eq_ofNat_of_zero_le n0
  obtain ⟨most, rfl⟩ := Int.eq_ofNat_of_zero_le m0
  have hn : n ≤ 13 := by omega
  have hm : most ≤ 2 := by omega
  refine Good.nx (s5_ok' h hb hn (a7 := V (nI most))) ?_
  refine Good.nx (s6_ok h b0 b1 hb hn) ?_
  refine Good.seq ((s7_go (k := 76) b0 b1 hb hn v6).imp fun f δ7 ⟨off, a9, e, t, v7, n9⟩ => ?_)
  subst e
  refine Good.nx (s8_ok' h t (bs := bs) (most := most) (a9 := a9)) ?_
  refine Good.nx (s9_ok h t hm) ?_
  refine Good.nx (ρ' := EB ws base bs n most off none a9 (V (lotsL ws off n most)) (some (.own [])) none none none none none) ((own_ok (by show 11 < 19; omega) (by rcases n9 with rfl | ⟨d, rfl⟩ <;> rfl)).trans rfl) ?_
  refine Good.nx (s11_ok h t) ?_
  refine Good.nx (s12_ok h t hm) ?_
  refine Good.nx (s13_ok h hb) ?_
  -- what is refused
  refine Good.seq ?_
  unfold s__law_right_14
  rw [pick_eq]
  refine Good.set (by show 14 < 19; omega) (Good.pick (k := 75) (xs := bads) rfl (Good.of (a := [.list bads]) rfl ⟨rfl, v7⟩) (by simp) (by show 8 ≤ 16777216; omega) fun bd δ8 hbd v8 => ?_)
  refine Good.nx (s15_ok h b0 b1 hb hbd) ?_
  refine Good.nx (ρ' := EB ws base bs n most off none a9 (V (lotsL ws off n most)) (V (.list ((sure ws off n most).map encK))) none none (V bd) (V (.list (tolds.map .str))) (V (.list (tolds.map .str)))) ((set_ok (lst_ok (xs := tolds.map .str) rfl (by show 8 ≤ 16777216; omega)) (by show 16 < 19; omega)).trans rfl) ?_
  refine Good.of (ret_ok (eand_ok (x := true) (y := true) (bin_ok (x := .list (tolds.map .str)) (y := .list (tolds.map .str)) rfl rfl (strs_eq tolds (by decide +kernel))) fun _ => eand_ok (x := true) (y := true) ?_ fun _ => eand_ok (x := true) (y := true) ?_ fun _ => ?_)) rfl
  · exact (call_ok (ds := [tkT base off n]) (one_ok (tup_ev rfl))).trans t.ticks
  · exact enot_ok (x := false) ((call_ok (ds := [encT ws, bd]) rfl).trans (bad_no h hbd))
  · exact enot_ok (x := false) ((call_ok (ds := [.tuple [.str "a"]]) (one_ok (tup_ok (xs := [.str "a"]) rfl (by show 1 ≤ 16777216; omega)))).trans (mkF_rt rfl))
end Lay.K02

set_option Elab.async false
set_option linter.all false
set_option maxRecDepth 100000
namespace Lay.K02
end Lay.K02
open PySem PySem.W PyProof.Rows Lay Lay.K02
set_option maxHeartbeats 0 in
theorem PySem.Challenge.cw_benchclocks_k02_whole_bent_holds : PySem.Challenge.rw_benchclocks_k02_whole_bent.Holds := by
  w_on; o_law; k_head; (case hw => w_witness2)
  k_fill
  refine Lay.walk_ofA (l := PySem.Challenge.rw_benchclocks_k02_whole_bent) (n := 63) (k := 15) (x := "script") (CX := fun w => L2.CX PySem.Challenge.rw_benchclocks_k02_whole_bent.prog w) rfl (by decide) rfl ⟨rfl, by decide, by decide⟩ (fun w h Y => PySem.W.km_in_of Y) ?F (fun _ _ _ _ _ z => cx_no z)
  case F =>
    intro w mg fa h Y KX G hmg AT
    refine' all_mk KX G hmg AT right_fair ?d_is_integer ?d_need_integer ?d_is_wheel ?d_is_train ?d_need_train ?d_places_at ?d_are_ticks ?d_need_ticks ?d_is_bend ?d_are_bends ?d_lengths ?d_working ?d_single ?d_double ?d_explanations ?d_surely_bent ?d_round_error ?d_greatest ?d__law_dice ?d__law_roll ?d__law_pick ?d__law_refused ?d__law_train ?d__law_places ?d__law_cycle ?d__law_lengths ?d__law_lots ?d__law_right ?d_law ?t_is_wheel ?r_is_wheel ?z_is_wheel ?t_is_train ?r_is_train ?z_is_train ?t_are_ticks ?r_are_ticks ?z_are_ticks ?t_is_bend ?r_is_bend ?z_is_bend ?t_are_bends ?r_are_bends ?z_are_bends ?t__law_right ?r__law_right ?z__law_right ?bad ?seen ?l_is_wheel ?l_is_train ?l_are_ticks ?l_is_bend ?l_are_bends ?n_super ?n_abs ?n_all ?n_bool ?n_int ?n_isinstance ?n_len ?n_max ?n_min ?n_range ?n_sorted ?n_sum ?n_tuple ?n_zip ?c_MOST_BENT ?c_MOST_LENGTH ?c_MOST_TEETH ?c_MOST_TICKS ?c_MOST_WHEELS
    (case d_is_integer => refine' dk ?xa ?xl ?xc ?xk; (case xa => k_is); (case xl => k_is); (case xc => k_is); (case xk => k_is))
    (case d_need_integer => refine' dk ?xa ?xl ?xc ?xk; (case xa => k_is); (case xl => k_is); (case xc => k_is); (case xk => k_is))
    (case d_is_wheel => refine' dk ?xa ?xl ?xc ?xk; (case xa => k_is); (case xl => k_is); (case xc => k_is); (case xk => k_is))
    (case d_is_train => refine' dk ?xa ?xl ?xc ?xk; (case xa => k_is); (case xl => k_is); (case xc => k_is); (case xk => k_is))
    (case d_need_train => refine' dk ?xa ?xl ?xc ?xk; (case xa => k_is); (case xl => k_is); (case xc => k_is); (case xk => k_is))
    (case d_places_at => refine' dk ?xa ?xl ?xc ?xk; (case xa => k_is); (case xl => k_is); (case xc => k_is); (case xk => k_is))
    (case d_are_ticks => refine' dk ?xa ?xl ?xc ?xk; (case xa => k_is); (case xl => k_is); (case xc => k_is); (case xk => k_is))
    (case d_need_ticks => refine' dk ?xa ?xl ?xc ?xk; (case xa => k_is); (case xl => k_is); (case xc => k_is); (case xk => k_is))
    (case d_is_bend => refine' dk ?xa ?xl ?xc ?xk; (case xa => k_is); (case xl => k_is); (case xc => k_is); (case xk => k_is))
    (case d_are_bends => refine' dk ?xa ?xl ?xc ?xk; (case xa => k_is); (case xl => k_is); (case xc => k_is); (case xk => k_is))
    (case d_lengths => refine' dk ?xa ?xl ?xc ?xk; (case xa => k_is); (case xl => k_is); (case xc => k_is); (case xk => k_is))
    (case d_working => refine' dk ?xa ?xl ?xc ?xk; (case xa => k_is); (case xl => k_is); (case xc => k_is); (case xk => k_is))
    (case d_single => refine' dk ?xa ?xl ?xc ?xk; (case xa => k_is); (case xl => k_is); (case xc => k_is); (case xk => k_is))
    (case d_double => refine' dk ?xa ?xl ?xc ?xk; (case xa => k_is); (case xl => k_is); (case xc => k_is); (case xk => k_is))
    (case d_explanations => refine' dk ?xa ?xl ?xc ?xk; (case xa => k_is); (case xl => k_is); (case xc => k_is); (case xk => k_is))
    (case d_surely_bent => refine' dk ?xa ?xl ?xc ?xk; (case xa => k_is); (case xl => k_is); (case xc => k_is); (case xk => k_is))
    (case d_round_error => refine' dk ?xa ?xl ?xc ?xk; (case xa => k_is); (case xl => k_is); (case xc => k_is); (case xk => k_is))
    (case d_greatest => refine' dk ?xa ?xl ?xc ?xk; (case xa => k_is); (case xl => k_is); (case xc => k_is); (case xk => k_is))
    (case d__law_dice => refine' dk ?xa ?xl ?xc ?xk; (case xa => k_is); (case xl => k_is); (case xc => k_is); (case xk => k_is))
    (case d__law_roll => refine' dk ?xa ?xl ?xc ?xk; (case xa => k_is); (case xl => k_is); (case xc => k_is); (case xk => k_is))
    (case d__law_pick => refine' dk ?xa ?xl ?xc ?xk; (case xa => k_is); (case xl => k_is); (case xc => k_is); (case xk => k_is))
    (case d__law_refused => refine' dk ?xa ?xl ?xc ?xk; (case xa => k_is); (case xl => k_is); (case xc => k_is); (case xk => k_is))
    (case d__law_train => refine' dk ?xa ?xl ?xc ?xk; (case xa => k_is); (case xl => k_is); (case xc => k_is); (case xk => k_is))
    (case d__law_places => refine' dk ?xa ?xl ?xc ?xk; (case xa => k_is); (case xl => k_is); (case xc => k_is); (case xk => k_is))
    (case d__law_cycle => refine' dk ?xa ?xl ?xc ?xk; (case xa => k_is); (case xl => k_is); (case xc => k_is); (case xk => k_is))
    (case d__law_lengths => refine' dk ?xa ?xl ?xc ?xk; (case xa => k_is); (case xl => k_is); (case xc => k_is); (case xk => k_is))
    (case d__law_lots => refine' dk ?xa ?xl ?xc ?xk; (case xa => k_is); (case xl => k_is); (case xc => k_is); (case xk => k_is))
    (case d__law_right => refine' dk ?xa ?xl ?xc ?xk; (case xa => k_is); (case xl => k_is); (case xc => k_is); (case xk => k_is))
    (case d_law => refine' dk ?xa ?xl ?xc ?xk; (case xa => k_is); (case xl => k_is); (case xc => k_is); (case xk => k_is))
    (case t_is_wheel => refine' tab_in ?xa ?xl ?xh ?xm ?xv; (case xa => k_is); (case xl => k_is); (case xh => exact rfl); (case xm => k_is); (case xv => exact rfl)); (case r_is_wheel => kernel_rfl); (case z_is_wheel => kernel_rfl)
    (case t_is_train => refine' tab_in ?xa ?xl ?xh ?xm ?xv; (case xa => k_is); (case xl => k_is); (case xh => exact rfl); (case xm => k_is); (case xv => exact rfl)); (case r_is_train => kernel_rfl); (case z_is_train => kernel_rfl)
    (case t_are_ticks => refine' tab_in ?xa ?xl ?xh ?xm ?xv; (case xa => k_is); (case xl => k_is); (case xh => exact rfl); (case xm => k_is); (case xv => exact rfl)); (case r_are_ticks => kernel_rfl); (case z_are_ticks => kernel_rfl)
    (case t_is_bend => refine' tab_in ?xa ?xl ?xh ?xm ?xv; (case xa => k_is); (case xl => k_is); (case xh => exact rfl); (case xm => k_is); (case xv => exact rfl)); (case r_is_bend => kernel_rfl); (case z_is_bend => kernel_rfl)
    (case t_are_bends => refine' tab_in ?xa ?xl ?xh ?xm ?xv; (case xa => k_is); (case xl => k_is); (case xh => exact rfl); (case xm => k_is); (case xv => exact rfl)); (case r_are_bends => kernel_rfl); (case z_are_bends => kernel_rfl)
    (case t__law_right => refine' tab_in ?xa ?xl ?xh ?xm ?xv; (case xa => k_is); (case xl => k_is); (case xh => exact rfl); (case xm => k_is); (case xv => exact rfl)); (case r__law_right => kernel_rfl); (case z__law_right => kernel_rfl)
    (case bad => refine' badk ?xaC ?xxL ?xa1 ?xlI ?xlc ?xld ?xlf ?xhf ?xt1 ?xc1 ?xsa ?xnb ?xkC ?xeC ?xtC ?xsu ?xve ?xow ?xini ?xopq ?xtop ?xhtx ?xhp ?xhar ?xhe ?xhs1 ?xhs2 ?xhb; (case xaC => k_is); (case xxL => k_is); (case xa1 => k_is); (case xlI => k_is); (case xlc => k_is); (case xld => k_is); (case xlf => rfl); (case xhf => first | rfl | decide +kernel); (case xt1 => k_is); (case xc1 => k_is); (case xsa => k_is); (case xnb => k_is); (case xkC => k_is); (case xeC => k_is); (case xtC => k_is); (case xsu => kernel_rfl); (case xve => k_is); (case xow => k_is); (case xini => kernel_rfl); (case xopq => k_is); (case xtop => decide +kernel); (case xhtx => decide +kernel); (case xhp => rfl); (case xhar => rfl); (case xhe => exact fun _ => rfl); (case xhs1 => exact fun _ => rfl); (case xhs2 => exact fun _ => rfl); (case xhb => exact fun us hl => match us, hl with | [_, _], _ => rfl))
    (case seen => refine' ⟨⟨?yga, ?ygg, ?yex, ?yhd⟩, ?ynf, ?yte⟩; (case yga => k_is); (case ygg => k_is); (case yex => k_is); (case yhd => k_is); (case ynf => k_is); (case yte => first | k_is | kernel_rfl))
    (case l_is_wheel => decide)
    (case l_is_train => decide)
    (case l_are_ticks => decide)
    (case l_is_bend => decide)
    (case l_are_bends => decide)
    (case n_super => k_is)
    (case n_abs => k_is)
    (case n_all => k_is)
    (case n_bool => k_is)
    (case n_int => k_is)
    (case n_isinstance => k_is)
    (case n_len => k_is)
    (case n_max => k_is)
    (case n_min => k_is)
    (case n_range => k_is)
    (case n_sorted => k_is)
    (case n_sum => k_is)
    (case n_tuple => k_is)
    (case n_zip => k_is)
    (case c_MOST_BENT => refine' num_k ?xa; (case xa => k_is))
    (case c_MOST_LENGTH => refine' num_k ?xa; (case xa => k_is))
    (case c_MOST_TEETH => refine' num_k ?xa; (case xa => k_is))
    (case c_MOST_TICKS => refine' num_k ?xa; (case xa => k_is))
    (case c_MOST_WHEELS => refine' num_k ?xa; (case xa => k_is))
