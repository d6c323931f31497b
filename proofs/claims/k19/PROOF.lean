import PyProof.Rows.All
import HandS.AnyAll
import HandS.GenList
import HandS.Comp
import HandS.RepeatKit
import HandS.Conv
import KE.GoesZip
import KE.GoesMore
import HandS.Zip
import HandS.ForMost
import HandS.SortInts
import HandS.TupAny
import HandS.TupMul
import HandS.Deep
import HandS.DictComp
import HandS.DictTup
import HandS.Style
import HandS.Text
import KE.SortData
import KE.KNestM
import HandS.Gcd
import PyProof.ListMulRoad
import PyProof.FactsAll.tuple_2
import HandS.Strs
import HandS.Replace
import HandS.More
import KE.DataCmp
import PyProof.WalkInts
import KE.DataMinMax
import HandS.TupLen
import KE.KTupSum
import HandS.IsInst
import KE.GoesEnum
import HandS.TupSets
import HandS.SetFor
import HandS.Defaults
import HandS.Head0
import HandS.Head1
import HandS.Head2
import HandS.HeadEnd
import HandS.HeadHook1
import HandS.HeadHook2
import HandS.HeadHook3
import HandS.HeadHook4
import HandS.HeadWalk
import PySem.Challenge.RW_cupworthy_k19_whole_ballots_and_nearest
import HandS.Head3
import Wide.All
import OpenK.AllK
import Wide.FinOn
import KE.KStateDown
set_option Elab.async false
set_option linter.all false
set_option maxRecDepth 100000
set_option maxHeartbeats 2000000
/-! GenX: all, any of a generator expression of one clause, over anything that PI serves; elements are bools. -/
namespace GenY
open PySem PySem.Spec PyProof.Rows L2 GxR GenW

/-- what the consumer wants of the generator: Z t, the end with answer t, whatever the table of generators, texts' numbers and new objects -/
def Fin (Z : Bool → Shared → Prop) (t : Bool) (s : Shared) : Prop := ∀ (G : Array GenState) (h' : Heap) (tk : Nat), AllBare G → (∀ b o, s.heap.get? b = some o → h'.get? b = some o) → Z t { s with gens := G, heap := h', toks := tk }
def RG (Z : Bool → Shared → Prop) (al : Bool) : Nat → Shared → Shared → Prop := fun _ _ s₁ => AllBare s₁.gens ∧ Fin Z al s₁
def YG (Z : Bool → Shared → Prop) (al : Bool) (a : Addr) (g : Nat) : Protocol := fun _ _ v s₁ kap => ∃ t, v = .bool t ∧ AllBare s₁.gens ∧ s₁.heap.IsGen a g ∧ s₁.heap.NoLimit ∧
  ((t ≠ al ∧ Fin Z t s₁) ∨ (t = al ∧ ∀ (G : Array GenState) (tk : Nat), AllBare G → kap (.send .none) { s₁ with gens := G, toks := tk }))
/-- the generator stands at a, as number g; n turns at most -/
structure Std (P : Program) (w : World) (A : Around) (Z : Bool → Shared → Prop) (al : Bool) (a : Addr) (g n : Nat) (s : Shared) : Prop where
  gen : s.heap.IsGen a g
  lim : s.heap.NoLimit
  goes : ∃ gs, s.gens[g]? = some gs ∧ gs.Goes (model P w) A (fun n s₀ r s₁ => r = .ok .next ∧ RG Z al n s₀ s₁) (YG Z al a g) n (.send .none) (s.setGen g .running)

section
variable {P : Program} {w : World} {A : Around} {Z : Bool → Shared → Prop} {a : Addr} {g : Nat}
/-- one step of the consumer -/
theorem next_ga {al : Bool} {n : Nat} {s : Shared} {Q : Option Value → Shared → Prop} {E : Value → Shared → Prop} (hh : A.handled = none) (hd : A.depth < recursionLimit) (st : Std P w A.in1 Z al a g n s)
    (h1 : ∀ s', Z al s' → Q none s') (h2 : ∀ s', Z (!al) s' → Q (some (.bool (!al))) s') (h3 : ∀ s' m, m + 1 = n → Std P w A.in1 Z al a g m s' → Q (some (.bool al)) s') :
    wpAny (model P w) A (pyNext (.ref a)) Q E s := by
  obtain ⟨hg, hl, gs, hgs, hgo⟩ := st
  have hgl : g < s.gens.size := (Array.getElem?_eq_some_iff.mp hgs).1
  refine wpAny_gsz (n := g + 1) hgl (wpAny_pyNext_genexpQ (P := RG Z al) (Y := YG Z al a g) hh hl hd hg hgs hgo (fun v s₁ gs' hb hv hsz => ?_) (fun s₁ hp h' hk hsz => ?_))
  · obtain ⟨t, rfl, bare, hg1, hl1, h | ⟨rfl, hk⟩⟩ := hv
    · obtain ⟨ht, hf⟩ := h
      have : t = !al := by cases t <;> cases al <;> simp_all
      subst this
      exact h2 _ (hf _ s₁.heap s₁.toks (allBare_setGen bare hb) fun _ _ e => e)
    · have hsz1 : g < s₁.gens.size := by
        have q : (s₁.setGen g gs').gens.size = s₁.gens.size := setGen_size _ _ _
        have hsz' : g + 1 ≤ (s₁.setGen g gs').gens.size := hsz
        omega
      cases n with
      | zero => exact (hk _ s₁.toks bare).elim
      | succ m => exact h3 _ m rfl ⟨hg1, hl1, gs', setGen_at hsz1, hk _ s₁.toks (allBare_setGen (s := s₁.setGen g gs') (allBare_setGen bare hb) rfl)⟩
  · exact h1 _ (hp.2 _ h' s₁.toks (allBare_setGen hp.1 rfl) hk)

theorem all_loop (hh : A.handled = none) (hd : A.depth < recursionLimit) : ∀ (n : Nat) (s : Shared), Std P w A.in1.in1 Z true a g n s →
    codeAny (model P w) A (.builtin "all.loop" ⟨[.ref a], []⟩) (fun r s' => ∃ t, r = .ok (.ret (.bool t)) ∧ Z t s') s := by
  intro n
  induction n with
  | zero =>
    intro s st
    refine codeAny_builtin F.entry_all_loop ?_
    rw [Around.under_plainId F.plain_all_loop _]
    show wpAny _ A.in1 (pyNext (.ref a) >>= _) _ _ s
    refine wpAny_bind (next_ga (A := A.in1) hh hd st (fun s' h => ?_) (fun s' h => ?_) (fun s' m hm _ => nomatch hm))
    · exact wpAny_bind (wpAny_rule (wpAny_pure ⟨true, rfl, h⟩))
    · refine wpAny_bind (wpAny_holding (wpAny_truthy_bool ?_))
      refine wpAny_bind (wpAny_letGo ?_)
      exact wpAny_bind (wpAny_rule (wpAny_pure ⟨false, rfl, h⟩))
  | succ n ih =>
    intro s st
    refine codeAny_builtin F.entry_all_loop ?_
    rw [Around.under_plainId F.plain_all_loop _]
    show wpAny _ A.in1 (pyNext (.ref a) >>= _) _ _ s
    refine wpAny_bind (next_ga (A := A.in1) hh hd st (fun s' h => ?_) (fun s' h => ?_) (fun s' m hm st' => ?_))
    · exact wpAny_bind (wpAny_rule (wpAny_pure ⟨true, rfl, h⟩))
    · refine wpAny_bind (wpAny_holding (wpAny_truthy_bool ?_))
      refine wpAny_bind (wpAny_letGo ?_)
      exact wpAny_bind (wpAny_rule (wpAny_pure ⟨false, rfl, h⟩))
    · refine wpAny_bind (wpAny_holding (wpAny_truthy_bool ?_))
      refine wpAny_bind (wpAny_letGo ?_)
      obtain rfl : m = n := by omega
      exact wpAny_pure ⟨plainId_quiet F.plain_all_loop _, ih s' st'⟩
theorem any_loop (hh : A.handled = none) (hd : A.depth < recursionLimit) : ∀ (n : Nat) (s : Shared), Std P w A.in1.in1 Z false a g n s →
    codeAny (model P w) A (.builtin "any.loop" ⟨[.ref a], []⟩) (fun r s' => ∃ t, r = .ok (.ret (.bool t)) ∧ Z t s') s := by
  intro n
  induction n with
  | zero =>
    intro s st
    refine codeAny_builtin F.entry_any_loop ?_
    rw [Around.under_plainId F.plain_any_loop _]
    show wpAny _ A.in1 (pyNext (.ref a) >>= _) _ _ s
    refine wpAny_bind (next_ga (A := A.in1) hh hd st (fun s' h => ?_) (fun s' h => ?_) (fun s' m hm _ => nomatch hm))
    · exact wpAny_bind (wpAny_rule (wpAny_pure ⟨false, rfl, h⟩))
    · refine wpAny_bind (wpAny_holding (wpAny_truthy_bool ?_))
      refine wpAny_bind (wpAny_letGo ?_)
      exact wpAny_bind (wpAny_rule (wpAny_pure ⟨true, rfl, h⟩))
  | succ n ih =>
    intro s st
    refine codeAny_builtin F.entry_any_loop ?_
    rw [Around.under_plainId F.plain_any_loop _]
    show wpAny _ A.in1 (pyNext (.ref a) >>= _) _ _ s
    refine wpAny_bind (next_ga (A := A.in1) hh hd st (fun s' h => ?_) (fun s' h => ?_) (fun s' m hm st' => ?_))
    · exact wpAny_bind (wpAny_rule (wpAny_pure ⟨false, rfl, h⟩))
    · refine wpAny_bind (wpAny_holding (wpAny_truthy_bool ?_))
      refine wpAny_bind (wpAny_letGo ?_)
      exact wpAny_bind (wpAny_rule (wpAny_pure ⟨true, rfl, h⟩))
    · refine wpAny_bind (wpAny_holding (wpAny_truthy_bool ?_))
      refine wpAny_bind (wpAny_letGo ?_)
      obtain rfl : m = n := by omega
      exact wpAny_pure ⟨plainId_quiet F.plain_any_loop _, ih s' st'⟩
/-- all(g), any(g) of such a generator -/
theorem call_all {s : Shared} {n : Nat} {Q E : Value → Shared → Prop} (hh : A.handled = none) (hd : A.depth < recursionLimit) (st : Std P w A.in1.in1 Z true a g n s) (h : ∀ t s', Z t s' → Q (.bool t) s') : wpAny (model P w) A (call (.builtin "all") [.ref a]) Q E s := by
  refine call_function_tree F.kind_all F.plain_all F.entry_all (F.args_all1 _) ?_
  unfold Builtin.«all»
  refine wpAny_bind (m := oneArg "all" _) (wpAny_pure ?_)
  refine wpAny_bind (wpAny_pyIter_gen st.gen ?_)
  refine wpAny_pure ⟨plainId_quiet F.plain_all_loop _, codeAny_mono (all_loop hh hd n s st) fun r s' ⟨t, e, hf⟩ => ?_⟩
  subst e
  exact h t s' hf
theorem call_any {s : Shared} {n : Nat} {Q E : Value → Shared → Prop} (hh : A.handled = none) (hd : A.depth < recursionLimit) (st : Std P w A.in1.in1 Z false a g n s) (h : ∀ t s', Z t s' → Q (.bool t) s') : wpAny (model P w) A (call (.builtin "any") [.ref a]) Q E s := by
  refine call_function_tree F.kind_any F.plain_any F.entry_any (F.args_any1 _) ?_
  unfold Builtin.«any»
  refine wpAny_bind (m := oneArg "any" _) (wpAny_pure ?_)
  refine wpAny_bind (wpAny_pyIter_gen st.gen ?_)
  refine wpAny_pure ⟨plainId_quiet F.plain_any_loop _, codeAny_mono (any_loop hh hd n s st) fun r s' ⟨t, e, hf⟩ => ?_⟩
  subst e
  exact h t s' hf
end
end GenY

set_option Elab.async false
set_option linter.all false
set_option maxRecDepth 100000
set_option maxHeartbeats 2000000
/-! GenS: the generator expression's own frame. -/
namespace GenY
open PySem PySem.Spec PyProof.Rows L2 GxR GenW

/-- the context of the generator's frame -/
abbrev cgen (X : Cx) (A' : Around) (s : Shared) (H : Hp) (cenv : Env) (fp : List Addr) : Cx := { X with A := A', s_0 := s, H_0 := H, env := cenv, outer := X.stack, stack := cenv :: X.stack, ex := fp, fn := fun _ => false, pn := [], xe := fun _ _ => False }
abbrev genv (X : Cx) (scope : Scope) (C : Addr) (code : Value) : Env := genEnv scope (cloFrom X.env.cells scope.names []) C code builtinsNs X.env
section
variable {X : Cx} {pins : List (Addr × Obj)} {σ : L2.St} {H : Hp} {s : Shared}
theorem gen_start {scope : Scope} {own : List (Str × Nat)} {fp : List Addr} {A' : Around} {code : Value} {h2 : Heap} {G : Array GenState} {d : Drawn} {tk : Nat} {m : Str → Option Value} (I : Inv X pins σ H s) (ok : BlkOk X.N X.env.scope scope own) (hcell : ∀ y ∈ scope.names, y.2 ≠ .cell) (hN : X.N.Nodup)
    (hfp : ∀ b ∈ fp, FpOk X pins H b ∧ b < s.heap.objs.size) (hh : A'.handled = none) (hfr : A'.frames = some (genv X scope s.heap.objs.size code :: X.stack)) (kp : ∀ b o, s.heap.get? b = some o → h2.get? b = some o) (hn : h2.Ns s.heap.objs.size m) (hG : AllBare G) :
    Inv (cgen X A' s H (genv X scope s.heap.objs.size code) fp) [] (wipe σ (own.map (·.2))) H { s with heap := h2, gens := G, drawn := d, toks := tk } := by
  have hfree : ∀ y ∈ scope.names, y.2 = .free → ∃ c, X.env.cells.lookup y.1 = some c := fun y hy e => by
    rcases ok.free y hy e with k | k
    · exact I.ok.has _ (.inl k)
    · exact I.ok.has _ (.inr k)
  have cm : ∀ {y c}, (y, c) ∈ cloFrom X.env.cells scope.names [] → X.env.cells.lookup y = some c ∧ c < s.heap.objs.size := fun {y c} hm => by
    rcases cloFrom_mem hm with hm | ⟨h1, rfl⟩
    · cases hm
    · obtain ⟨c, hc⟩ := hfree _ h1 rfl
      rw [hc]
      obtain ⟨w, z⟩ := I.cell _ _ hc
      exact ⟨rfl, z.lt⟩
  have mem : ∀ {y c}, (cloFrom X.env.cells scope.names []).lookup y = some c → X.env.cells.lookup y = some c ∧ c < s.heap.objs.size := fun {y c} e => cm (PySem.mem_of_lookup e)
  have look : ∀ {y}, scope.names.lookup y = some .free → ∃ c, (cloFrom X.env.cells scope.names []).lookup y = some c ∧ X.env.cells.lookup y = some c := fun {y} hl => by
    have hy : (y, NameKind.free) ∈ scope.names := PySem.mem_of_lookup hl
    obtain ⟨c', e'⟩ := mem_lookup (cloFrom_has (cells := X.env.cells) (acc := []) hy)
    exact ⟨c', e', (mem e').1⟩
  have okB : (cgen X A' s H (genv X scope s.heap.objs.size code) fp).Ok := by
    refine ⟨I.ok.mod, ok.kind, I.ok.glob, rfl, Nat.le_refl _, fun y z c e1 e2 => I.ok.inj y z c (mem e1).1 (mem e2).1, fun y hy => ?_, fun y c z => (nomatch z), fun _ => hh, hfr, .inr ⟨rfl, rfl⟩, fun b hb => ⟨Nat.ne_of_lt (hfp b hb).2, fun y c e => (hfp b hb).1.2.2.2.2.1 y c (mem e).1⟩, I.bs, Nat.le_trans I.ok.bsz I.sz, fun b o e hb => ?_, fun b hb z => ?_, I.stack, I.stkFree⟩
    · rcases hy with hy | hy
      · exact absurd rfl (hcell _ (PySem.mem_of_lookup hy))
      · obtain ⟨c, h1, _⟩ := look hy
        exact ⟨c, h1⟩
    · rcases (hfp b hb).1.2.2.2.1 with z | z
      · exact I.ok.noex b o e z
      · exact absurd (Nat.lt_of_lt_of_le (Heap.lt_size e) (Nat.le_trans I.ok.bsz z)) (Nat.lt_irrefl _)
    · rcases List.mem_cons.mp (I.stkSub b z) with z | z
      · exact (hfp b hb).1.2.1 z
      · exact (hfp b hb).1.2.2.1 z
  refine ⟨okB, rfl, hG, Un.kept kp, ⟨m, hn, fun i y av e1 e2 e3 => ?_⟩, fun y c e => ?_, I.hok.fresh (Nat.le_refl _), fun y c e => I.freeC y c (mem e).1, fun p hp => absurd (show p ∈ ([] : List (Addr × Obj)) ++ [] from hp) (by simp), I.hok.kept kp, by rw [wipe_length]; exact I.len⟩
  · obtain ⟨e2, hne⟩ := wipe_some e2
    have e3 : Vis scope y := e3
    have e1 : X.N[i]? = some y := e1
    have no : ∀ k, scope.names.lookup y = some k → ¬ (k = .local ∨ k = .cell) := fun k e hh => by
      rcases ok.own _ (PySem.mem_of_lookup e) hh with e' | e'
      · obtain ⟨p, hp, hpy⟩ := List.mem_map.mp e'
        have e3 := ok.ix p hp
        have : p.1 = y := hpy
        rw [this] at e3
        exact hne (List.mem_map.mpr ⟨p, hp, nodup_ix hN e3 e1⟩)
      · exact e' (List.mem_of_getElem? e1)
    have hfr : scope.names.lookup y = some .free := by
      rcases e3 with e3 | e3 | e3
      · exact absurd (.inl rfl) (no _ e3)
      · exact absurd (.inr rfl) (no _ e3)
      · exact e3
    obtain ⟨m, hn, hl⟩ := I.loc
    have hvis : Vis X.env.scope y := (ok.free _ (PySem.mem_of_lookup hfr) rfl).elim (fun k => .inr (.inl k)) (fun k => .inr (.inr k))
    obtain ⟨w, r, q⟩ := hl i y av e1 e2 hvis
    refine ⟨w, r, .inr ⟨.inr hfr, ?_⟩⟩
    obtain ⟨c, h1, h2⟩ := look hfr
    rcases q with ⟨k, _⟩ | ⟨_, c', e', z⟩
    · have k : X.env.scope.names.lookup y = some .local := k
      rcases ok.free _ (PySem.mem_of_lookup hfr) rfl with k' | k' <;> rw [show X.env.scope.names.lookup y = _ from k'] at k <;> cases k
    · rw [h2] at e'; cases e'
      exact ⟨c, h1, z.keeps kp⟩
  · obtain ⟨w, z⟩ := I.cell y c (mem e).1
    exact ⟨w, z.keeps kp⟩
end

/-- all, any of elt for target in iter if ..: al tells which; W by the turn and a measure, Nx what a turn is to reach -/
def tGa (al : Bool) (P : Addr) (wi : TI) (g : TG) (tt : TT) (te : TE) (vs : List Nat) : TE := fun σ H Q => wi σ H fun J H1 => TabG H1 P ∧ ∀ H2, Tabbed P H1 H2 → ∃ W : Nat → Nat → Hp → Prop, (∃ m, W 0 m H2) ∧ ∀ i m H, W i m H →
  (J.stop i H ∧ Q (.bl al) H) ∨ (J.go i H ∧ ∃ Nx : Hp → Prop, (∀ H', Nx H' → ∃ m', m' < m ∧ W (i + 1) m' H') ∧ ∀ x H', J.yld i H x H' → g x (wipe σ vs) H' fun σ2 H2 => wipe σ2 vs = wipe σ vs ∧ tt σ2 H2 fun b H3 =>
    if b = true then te σ2 H3 fun y H4 => ∃ t, y = .bl t ∧ ((t = al ∧ Nx H4) ∨ (t ≠ al ∧ Q (.bl t) H4)) else Nx H3)

section
variable {X : Cx} {pins : List (Addr × Obj)} {σ : L2.St} {H : Hp} {s : Shared}
/-- the turns -/
theorem seg_turns {al : Bool} {Z : Bool → Shared → Prop} {Q : VK} {a gi : Addr} {go : Obj} {elt tg iter : Expr} {ifs : List Expr} {scope : Scope} {gpos : Pos} {g : TG} {tt : TT} {te : TE} {vs : List Nat} {X' : Cx} {A₀ : Around} {fp : List Addr} {it : Addr} {tn : Nat → Heap → Prop} {J : It} {W : Nat → Nat → Hp → Prop} {σ₀ : L2.St}
    (hA : X'.A = A₀.over (.compLoop (.GeneratorExp elt [⟨tg, iter, ifs, 0⟩] scope gpos) 0 (.ref it) .none X'.env) []) (hc : X'.calm = true) (hexfp : X'.ex = fp) (hpn : X'.pn = []) (hxe : ∀ e s, ¬ X'.xe e s) (hco : X'.env.scope.isCoroutine = false) (hσ : wipe σ vs = σ₀) (hgo : ∀ {h : Heap}, h.get? a = some go → h.IsGen a gi) (hafp : ∀ b ∈ fp, a ≠ b)
    (T : Turn X'.prog X'.w X'.K tg J fp it tn) (pg : PG X' tg g) (pt : PTs X' ifs tt) (pe : PE X' elt te)
    (hF : ∀ t s' σ' H', Inv X' ([(a, go)] ++ []) σ' H' s' → σ'.length = σ₀.length → Q (.bl t) H' → Fin Z t s')
    (turn : ∀ i m H, W i m H → (J.stop i H ∧ Q (.bl al) H) ∨ (J.go i H ∧ ∃ Nx : Hp → Prop, (∀ H', Nx H' → ∃ m', m' < m ∧ W (i + 1) m' H') ∧ ∀ x H', J.yld i H x H' → g x (wipe σ vs) H' fun σ2 H2 => wipe σ2 vs = wipe σ vs ∧ tt σ2 H2 fun b H3 =>
      if b = true then te σ2 H3 fun y H4 => ∃ t, y = .bl t ∧ ((t = al ∧ Nx H4) ∨ (t ≠ al ∧ Q (.bl t) H4)) else Nx H3)) :
    ∀ (m n i : Nat) (s₀ s : Shared) (H : Hp), m < n → W i m H → Inv X' [(a, go)] σ₀ H s → tn i s.heap → (∀ b ∈ fp, H b = none) →
      Seg (model X'.prog X'.w) A₀ (fun n s₀ r s₁ => r = .ok .next ∧ RG Z al n s₀ s₁) (YG Z al a gi) n s₀
        (.compLoop (.GeneratorExp elt [⟨tg, iter, ifs, 0⟩] scope gpos) 0 (.ref it) .none X'.env)
        ((model X'.prog X'.w).den (.compLoop (.GeneratorExp elt [⟨tg, iter, ifs, 0⟩] scope gpos) 0 (.ref it) .none X'.env)) [] s := by
  have stat : ∀ {σ' : L2.St} {H' : Hp} {s' : Shared}, Inv X' [(a, go)] σ' H' s' → (∀ b ∈ fp, H' b = none) → ∀ b ∈ fp, FpOk X' [(a, go)] H' b := fun {σ' H' s'} I' hn b hb =>
    ⟨hn b hb, (I'.ok.exf b (hexfp ▸ hb)).1, I'.ok.exfs b (hexfp ▸ hb), .inl (hexfp ▸ hb), fun x c e => (I'.ok.exf b (hexfp ▸ hb)).2 x c e, fun p hp => by
      rw [hpn] at hp
      obtain rfl : p = (a, go) := by simpa using hp
      exact hafp b hb⟩
  have thnX : ∀ {α : Type} {t : Sem α} {Q1 Q2 : α → Shared → Prop} {E : Value → Shared → Prop} {s : Shared}, wpAny (model X'.prog X'.w) X'.A t Q1 X'.xe s → (∀ a s, Q1 a s → Q2 a s) → wpAny (model X'.prog X'.w) X'.A t Q2 E s := fun h q => wpAny_mono h q fun e s z => (hxe e s z).elim
  have thnF' : ∀ {α : Type} {t : Sem α} {Q1 Q2 : α → Shared → Prop} {E : Value → Shared → Prop} {s : Shared}, wpAny (model X'.prog X'.w) X'.A t Q1 (fun _ _ => False) s → (∀ a s, Q1 a s → Q2 a s) → wpAny (model X'.prog X'.w) X'.A t Q2 E s := fun h q => wpAny_mono h q fun e s z => z.elim
  intro m
  induction m using Nat.strongRecOn with
  | ind m ih =>
    intro n i s₀ s H hmn w I st nH
    show Seg _ A₀ _ _ _ s₀ _ ((compTurn (.GeneratorExp elt [⟨tg, iter, ifs, 0⟩] scope gpos) 0 (.ref it) .none X'.env).onRaise (leaving X'.env)) [] s
    rw [compTurn_gen, Sem.onRaise_eq_wrap]
    refine seg_bind_wrap (wpAny_standAt ?_)
    rcases turn i m H w with ⟨stop, qq⟩ | ⟨go', Nx, hNx, step⟩
    · have td := T.done X' rfl rfl rfl hc i [(a, go)] s σ₀ H (fun _ _ => False) I (stat I nH) st stop
      refine seg_bind_wrap ?_
      rw [← hA]
      refine thnF' td fun r s6 ⟨hr, I6⟩ => ?_
      subst hr
      exact seg_end (.ok .next) ⟨rfl, I6.bare, hF al s6 σ₀ H I6 rfl qq⟩
    · have ti := T.item X' rfl rfl rfl hc i [(a, go)] s σ₀ H (fun _ _ => False) I (stat I nH) st go'
      refine seg_bind_wrap ?_
      rw [← hA]
      refine thnF' ti fun r s6 ⟨u, hr, h6⟩ => ?_
      subst hr
      refine seg_bind_wrap ?_
      rw [← hA]
      refine thnF' h6 fun _ s7 ⟨x, H7, I7, r7, y7, st7, n7⟩ => ?_
      have I7' := I7.pinned (stat I7 n7) (T.obj _ _ st7)
      have g7 := step x H7 y7
      rw [hσ] at g7
      refine seg_bind_wrap ?_
      rw [← hA]
      refine thnX (pg.run _ s7 _ H7 x u _ I7' r7 g7) fun _ s8 ⟨σ8, H8, I8, hw8, q8⟩ => ?_
      refine seg_bind_wrap ?_
      rw [← hA]
      refine thnX (pt.run _ s8 σ8 H8 _ I8 q8) fun b s9 ⟨H9, I9, q9⟩ => ?_
      have fin : ∀ {s' : Shared} {H' : Hp}, Inv X' ([(a, go)] ++ pinsAt fp s7.heap) σ8 H' s' → Nx H' → ∃ m', m' < m ∧ W (i + 1) m' H' ∧ Inv X' [(a, go)] σ₀ H' s' ∧ tn (i + 1) s'.heap ∧ ∀ b ∈ fp, H' b = none := fun {s' H'} I' nx => by
        obtain ⟨m', hm, w'⟩ := hNx H' nx
        have pin' : ∀ b ∈ fp, ∀ o, s7.heap.get? b = some o → s'.heap.get? b = some o ∧ H' b = none := fun b hb o e =>
          let z := I'.pin (b, o) (List.mem_append_right _ (List.mem_append_right _ (mem_pinsAt hb e)))
          ⟨z.1, z.2.1⟩
        have hl : σ₀.length = σ8.length := by rw [← hw8, wipe_length]
        refine ⟨m', hm, w', I'.unpinned.weak hl (fun j v e => ?_), T.keep _ _ _ st7 fun b hb o e => (pin' b hb o e).1, fun b hb => ?_⟩
        · rw [← hw8] at e
          exact (wipe_some e).1
        · obtain ⟨o, e, _⟩ := T.obj _ _ st7 b hb
          exact (pin' b hb o e).2
      cases b with
      | false =>
        simp only [Bool.false_eq_true, if_false] at q9 ⊢
        obtain ⟨m', hm, w', I', st', n'⟩ := fin I9 q9
        exact seg_again rfl (ih m' hm n (i + 1) s₀ s9 H9 (by omega) w' I' st' n')
      | true =>
        simp only [if_true] at q9 ⊢
        have hy : ∀ v, yieldOut X'.env v = yieldValue v := fun v => by simp only [yieldOut, hco, Bool.false_eq_true, if_false]
        simp only [hy]
        rw [Sem.bind_eq_wrap', Sem.bind_eq_wrap', Sem.wrap_wrap, Sem.wrap_wrap]
        refine seg_wrap ?_
        rw [← hA]
        refine thnX (pe.run _ s9 σ8 H9 _ I9 q9) fun z s10 ⟨yv, H10, I10, r10, t, e10, q10⟩ => ?_
        subst e10
        obtain rfl : z = .bool t := r10
        cases n with
        | zero => exact absurd hmn (Nat.not_lt_zero _)
        | succ n =>
          refine seg_at (seg_yield rfl rfl rfl ⟨t, rfl, I10.bare, hgo (I10.pin (a, go) (by simp)).1, I10.nolimit, ?_⟩)
          rcases q10 with ⟨e, nx⟩ | ⟨e, qq⟩
          · refine .inr ⟨e, fun G tk hG => ?_⟩
            obtain ⟨m', hm, w', I', st', n'⟩ := fin I10 nx
            refine seg_again rfl (ih m' hm n (i + 1) _ { s10 with gens := G, toks := tk } H10 (by omega) w' ?_ st' n')
            exact I'.call' (ch := []) rfl (Un.refl) I'.hok hG (fun b z => nomatch z)
          · have I11 : Inv X' [(a, go)] σ8 H10 s10 := I10.unpinned
            exact .inl ⟨e, hF t s10 σ8 H10 (by simpa using I11) (by rw [← hw8, wipe_length]) qq⟩
end
end GenY

set_option Elab.async false
set_option linter.all false
set_option maxRecDepth 100000
set_option maxHeartbeats 2000000
/-! GenM: the generator is made; all(..), any(..) of it. -/
namespace GenY
open PySem PySem.Spec PyProof.Rows L2 GxR GenW

/-- the around of the generator's frame -/
structure GArd (X : Cx) (A' : Around) : Prop where
  hd : A'.handled = none
  dp : A'.depth ≤ X.A.depth + 1
  un : A'.units ≤ X.A.units + 5
section
variable {X : Cx} {pins : List (Addr × Obj)} {σ : L2.St} {H : Hp} {s : Shared}
theorem Inv.pin1 {σ : L2.St} {H : Hp} {s : Shared} {p : Addr × Obj} (I : Inv X [] σ H s) (hpn : X.pn = []) (h : s.heap.get? p.1 = some p.2 ∧ H p.1 = none ∧ p.1 ≠ X.env.locals ∧ p.1 ∉ X.fs ∧ ∀ v, p.2.data ≠ .cell v) : Inv X [p] σ H s :=
  ⟨I.ok, I.os, I.bare, I.base, I.loc, I.cell, I.free, I.freeC, fun q hq => by
    rw [hpn] at hq
    obtain rfl : q = p := by simpa using hq
    exact h, I.hok, I.len⟩
theorem gen_made {al : Bool} {Q : VK} {c P : Addr} {elt tg iter : Expr} {ifs : List Expr} {scope : Scope} {gpos : Pos} {own : List (Str × Nat)} {wi : TI} {g : TG} {tt : TT} {te : TE} (hc : X.calm = true) (hd : X.A.depth < recursionLimit) (TB : TabB X.base X.mg c P) (hcode : X.env.code = .ref c)
    (ok : BlkOk X.N X.env.scope scope own) (hcell : ∀ y ∈ scope.names, y.2 ≠ .cell) (hco : scope.isCoroutine = false) (dot : scope.names.lookup (".0" : Str) = some NameKind.local) (hN : X.N.Nodup) (hi : PI X tg iter wi) (hs : ∀ v, genFold iter X.env v = pure v)
    (hg : ∀ (s : Shared) (H : Hp) (C : Addr) (code : Value) (fp : List Addr) (A' : Around), GArd X A' → PG (cgen X A' s H (genv X scope C code) fp) tg g)
    (ht : ∀ (s : Shared) (H : Hp) (C : Addr) (code : Value) (fp : List Addr) (A' : Around), GArd X A' → PTs (cgen X A' s H (genv X scope C code) fp) ifs tt)
    (he : ∀ (s : Shared) (H : Hp) (C : Addr) (code : Value) (fp : List Addr) (A' : Around), GArd X A' → PE (cgen X A' s H (genv X scope C code) fp) elt te)
    (I : Inv X pins σ H s) (h : tGa al P wi g tt te (own.map (·.2)) σ H Q) :
    wpAny (model X.prog X.w) X.A (eval (.GeneratorExp elt [⟨tg, iter, ifs, 0⟩] scope gpos) X.env) (fun u s5 => ∃ a gi n, u = .ref a ∧ Std X.prog X.w X.A.in1.in1 (fun t s' => ∃ H', Inv X pins σ H' s' ∧ Q (.bl t) H') al a gi n s5) X.xe s := by
  have hfree : ∀ y ∈ scope.names, y.2 = .free → ∃ c, X.env.cells.lookup y.1 = some c := fun y hy e => by
    rcases ok.free y hy e with k | k
    · exact I.ok.has _ (.inl k)
    · exact I.ok.has _ (.inr k)
  refine wpAny_GeneratorExp_make hco (closure_ok hfree) hcell dot ok.kind hd ?_ hs
  refine thn (hi.run pins s σ H _ I h) fun xv s1 hx => thn hx fun itv s2 h2 => ?_
  obtain ⟨it, fp, tn, J, H2, e, I2, T, st2, f2, ⟨ps, hP, ht3⟩, q⟩ := h2
  subst e
  refine ⟨I2.nolimit, ?_⟩
  have hPs : s2.heap.get? P = some { cls := .none, data := .fields ps } := I2.hok P _ hP
  have cd : PySem.W.CodeHd s2.heap c P := TB.code.keeps fun b u e => I2.bk b u e
  have cont : ∀ (code : Value) (h3 : Heap) (tk : Nat) (ps' : Array Value), Heap.ExtBut P s2.heap h3 → h3.get? P = some { cls := .none, data := .fields ps' } → (∃ more, ps' = ps ++ more) → TriplesOk ps'.toList →
      wpAny (model X.prog X.w) X.A (builtinsFor X.env.globals X.env.builtins) (fun bi s₄ =>
        ∀ h', h'.Ns s₄.heap.objs.size (fun y => if y = ".0" then some (.ref it) else none) → Heap.SameBut s₄.heap.objs.size (s₄.heap.push { cls := .type "frame", data := .dict #[] }) h' →
          ∃ a gi n, Value.ref h'.objs.size = .ref a ∧ Std X.prog X.w X.A.in1.in1 (fun t s' => ∃ H', Inv X pins σ H' s' ∧ Q (.bl t) H') al a gi n { s₄ with
            gens := s₄.gens.push (.fresh (.compStart (.GeneratorExp elt [⟨tg, iter, ifs, 0⟩] scope gpos) 0 (.ref it) .none (genEnv scope (cloFrom X.env.cells scope.names []) s₄.heap.objs.size code bi X.env))),
            toks := s₄.toks + 1 + 1 + 1,
            heap := h'.push { cls := .type "generator", data := .fields #[.int s₄.gens.size 0, .str "<genexpr>" (s₄.toks + 1), .str (X.env.qual ++ "<genexpr>") (s₄.toks + 1 + 1)] } }) X.xe { s2 with heap := h3, toks := tk } := by
    intro code h3 tk ps' hx hP3 hmore ht3'
    obtain ⟨bm, ob, e1, e2, e3, e4, e5, e6, e7, e8⟩ := TB.bm
    have keep3 : ∀ b u, b ≠ P → s2.heap.get? b = some u → h3.get? b = some u := fun b u hb e => hx b u hb e
    refine wpAny_builtinsFor (m := X.mg) (by rw [I2.ok.glob]; exact (I2.mod.glob.keeps I2.bk).extBut hx TB.gP) e1 e2 (keep3 _ _ e4 (I2.bk _ _ e5)) e6 e7 e8 ?_
    obtain ⟨more, em⟩ := hmore
    have I3 := inv_tab (more := more) (h' := h3) (g' := s2.gens) (d' := s2.drawn) (t' := tk) I2 hP (fun b u hb e => keep3 b u hb e) (by rw [← em]; exact hP3) I2.bare
    rw [← em] at I3
    obtain ⟨W, ⟨m0, w0⟩, turn⟩ := q (upd H2 P (.tbl ps')) ⟨⟨ps', upd_same, ht3'⟩, fun b hb => upd_ne hb⟩
    generalize hH3 : upd H2 P (.tbl ps') = H3 at I3 w0
    have f3 : ∀ b ∈ fp, FpOk X pins H3 b ∧ b < h3.objs.size := fun b hb => by
      have hbP : b ≠ P := fun z => by
        have := (f2 b hb).1
        rw [z, hP] at this
        cases this
      obtain ⟨o, eo, _⟩ := T.obj _ _ st2 b hb
      refine ⟨⟨?_, (f2 b hb).2⟩, Heap.lt_size (keep3 b o hbP eo)⟩
      rw [← hH3, upd_ne hbP]
      exact (f2 b hb).1
    intro h' hn' hs'
    have hn' : h'.Ns h3.objs.size (fun y => if y = ".0" then some (.ref it) else none) := hn'
    have hs' : Heap.SameBut h3.objs.size (h3.push { cls := .type "frame", data := .dict #[] }) h' := hs'
    have hsz : h'.objs.size = h3.objs.size + 1 := by rw [hs'.1, Heap.size_push]
    generalize hgo : ({ cls := .type "generator", data := .fields #[.int s2.gens.size 0, .str "<genexpr>" (tk + 1), .str (X.env.qual ++ "<genexpr>") (tk + 1 + 1)] } : Obj) = go
    have keep5 : ∀ b o, h3.get? b = some o → (h'.push go).get? b = some o := fun b o e => Heap.get?_push_of_some _ (hs'.extBut b o (Nat.ne_of_lt (Heap.lt_size e)) (Heap.get?_push_of_some _ e))
    have hgen : ∀ {h : Heap}, h.get? h'.objs.size = some go → h.IsGen h'.objs.size s2.gens.size := fun {h} e => by
      rw [← hgo] at e
      exact ⟨_, _, _, e, rfl, rfl, rfl⟩
    have hat : (h'.push go).get? h'.objs.size = some go := Heap.get?_push_size _ (by rw [← hgo]; rfl)
    have hbare : AllBare (s2.gens.push (.fresh (.compStart (.GeneratorExp elt [⟨tg, iter, ifs, 0⟩] scope gpos) 0 (.ref it) .none (genv X scope h3.objs.size code)))) := I2.bare.push rfl
    refine ⟨h'.objs.size, s2.gens.size, m0 + 1, rfl, hgen hat, I3.nolimit.keeps (h' := h'.push go) keep5, ?_⟩
    · refine ⟨_, Array.getElem?_push_size .., rfl, ?_⟩
      let A₀ : Around := X.A.in1.in1
      let cenv : Env := genv X scope h3.objs.size code
      let A' : Around := A₀.over (.compLoop (.GeneratorExp elt [⟨tg, iter, ifs, 0⟩] scope gpos) 0 (.ref it) .none cenv) []
      have hA : GArd X A' := by
        exact ⟨I2.ok.hd hc, Nat.le_of_eq rfl, Nat.le_of_eq rfl⟩
      have hfr : A'.frames = some (cenv :: X.stack) := by
        have e : A₀.frames = some X.stack := I2.ok.frames
        show pushEnvs [cenv] (pushEnvs [] A₀.frames) = _
        rw [e]; rfl
      let X' : Cx := cgen X A' { s2 with heap := h3, toks := tk } H3 cenv fp
      have bare5 := allBare_setGen (s := { s2 with gens := s2.gens.push (.fresh (.compStart (.GeneratorExp elt [⟨tg, iter, ifs, 0⟩] scope gpos) 0 (.ref it) .none cenv)) }) (g := s2.gens.size) (x := .running) hbare rfl
      have I5 := gen_start (h2 := h'.push go) (d := s2.drawn) (tk := tk + 1 + 1 + 1) (code := code) (A' := A') I3 ok hcell hN f3 hA.hd hfr keep5 (hn'.keeps fun b o e => Heap.get?_push_of_some _ e) bare5
      have I6 := Inv.pin1 (p := (h'.objs.size, go)) I5 rfl ⟨hat, I3.hok.fresh (by show h3.objs.size ≤ _; omega), by show h'.objs.size ≠ h3.objs.size; omega, fun hb => (List.mem_cons.mp (I3.stkSub _ hb)).elim (fun z => by have q : X.env.locals < h3.objs.size := I3.lt; rw [← z] at q; have q2 : h'.objs.size < h3.objs.size := q; omega) (I3.nofs (by show h3.objs.size ≤ _; omega)), fun v z => by rw [← hgo] at z; cases z⟩
      have loop := seg_turns (X' := X') (A₀ := A₀) (Q := Q) (Z := fun t s' => ∃ H', Inv X pins σ H' s' ∧ Q (.bl t) H') (al := al) (a := h'.objs.size) (gi := s2.gens.size) (go := go) (elt := elt) (tg := tg) (iter := iter) (ifs := ifs) (scope := scope) (gpos := gpos) (vs := own.map (·.2)) (fp := fp) (it := it) (σ₀ := wipe σ (own.map (·.2))) (W := W) (tn := tn) (J := J)
        rfl hc rfl rfl (fun _ _ z => z) hco rfl hgen (fun b hb z => by have q : b < h3.objs.size := (f3 b hb).2; rw [← z] at q; have q2 : h'.objs.size < h3.objs.size := q; omega) T (hg _ _ _ _ _ _ hA) (ht _ _ _ _ _ _ hA) (he _ _ _ _ _ _ hA)
        (fun t s' σ' H' I' _ qq G hh tk' hG hk => ⟨H', I3.call' (ch := fp) I'.os (I'.base.trans (Un.kept hk)) (I'.hok.kept hk) hG fun b hb => ⟨(f3 b hb).1.2.2.2.1, (f3 b hb).1.2.1, (f3 b hb).1.2.2.2.2.1, (f3 b hb).1.2.2.2.2.2⟩, qq⟩)
        turn m0 (m0 + 1) 0
      have st5 : tn 0 (h'.push go) := T.keep _ _ _ st2 fun b hb o e => keep5 b o (keep3 b o (fun z => by
        have := (f2 b hb).1
        rw [z, hP] at this
        cases this) e)
      have loop5 := fun s₀ => loop s₀ _ H3 (Nat.lt_succ_self _) w0 I6 st5 fun b hb => (f3 b hb).1.1
      generalize hs5 : Shared.setGen _ _ _ = s5
      have loop6 : Seg (model X.prog X.w) A₀ (fun n s₀ r s₁ => r = .ok .next ∧ RG (fun t s' => ∃ H', Inv X pins σ H' s' ∧ Q (.bl t) H') al n s₀ s₁) (YG (fun t s' => ∃ H', Inv X pins σ H' s' ∧ Q (.bl t) H') al h'.objs.size s2.gens.size) (m0 + 1) s5
          (.compLoop (.GeneratorExp elt [⟨tg, iter, ifs, 0⟩] scope gpos) 0 (.ref it) .none cenv) ((model X.prog X.w).den (.compLoop (.GeneratorExp elt [⟨tg, iter, ifs, 0⟩] scope gpos) 0 (.ref it) .none cenv)) [] s5 := by
        have := loop5 s5
        rw [← hs5] at this ⊢
        exact this
      have st6 : tn 0 s5.heap := by rw [← hs5]; exact st5
      show Seg _ A₀ _ _ _ s5 _ ((compStart (.GeneratorExp elt [⟨tg, iter, ifs, 0⟩] scope gpos) 0 (.ref it) .none cenv).onRaise (leaving cenv)) [] s5
      unfold compStart
      rw [Sem.onRaise_eq_wrap]
      show Seg _ A₀ _ _ _ s5 _ ((ask >>= _).wrap _ _ _ _) [] s5
      refine seg_bind_wrap (wpAny_askSetting ?_)
      split
      · exact seg_again rfl loop6
      · first
          | exact seg_bind_wrap (wpAny_rule (seg_bind_wrap (wpAny_standAt (seg_bind_wrap (T.self _ 0 _ _ _ st6 (seg_again rfl loop6))))))
          | (refine seg_bind_wrap (wpAny_rule ?_); show Seg _ A₀ _ _ _ s5 _ ((standAt iter.pos >>= _).wrap _ _ _ _) [] s5; exact seg_bind_wrap (wpAny_standAt (seg_bind_wrap (T.self _ 0 _ _ _ st6 (seg_again rfl loop6)))))
  cases hf : codeAmong gpos ps.toList with
  | none =>
    refine wpAny_genexprCodeX hcode (cd.code hPs ht3) (cd.tab hPs) hf fun c' h' tk hx hge hlt hco' _ htab' _ => ?_
    obtain ⟨o1, vs, f1, tf, fl, tg, inF, tx, tt, op, _, _, _, _, _, _, _, _, _, htr, _⟩ := hco'
    exact cont _ h' tk _ hx htab'.2 ⟨_, rfl⟩ htr
  | some cv =>
    refine wpAny_genexprCode_hit hcode (cd.code hPs ht3) hf ?_
    exact cont cv s2.heap s2.toks ps (Heap.ExtBut.refl _ _) hPs ⟨#[], by simp⟩ ht3
end
end GenY
namespace GenY
open PySem PySem.Spec PyProof.Rows L2 GxR GenW
section
variable {X : Cx}
theorem pe_ga {al : Bool} {c P : Addr} {elt tg iter : Expr} {ifs : List Expr} {scope : Scope} {gpos p pos : Pos} {own : List (Str × Nat)} {wi : TI} {g : TG} {tt : TT} {te : TE} (hc : X.calm = true) (hd : X.A.depth < recursionLimit) (hgl : Gl X (if al then "all" else "any")) (hm : X.mg (if al then "all" else "any") = none) (TB : TabB X.base X.mg c P) (hcode : X.env.code = .ref c)
    (ok : BlkOk X.N X.env.scope scope own) (hcell : ∀ y ∈ scope.names, y.2 ≠ .cell) (hco : scope.isCoroutine = false) (dot : scope.names.lookup (".0" : Str) = some NameKind.local) (hN : X.N.Nodup) (hi : PI X tg iter wi) (hs : ∀ v, genFold iter X.env v = pure v)
    (hg : ∀ (s : Shared) (H : Hp) (C : Addr) (code : Value) (fp : List Addr) (A' : Around), GArd X A' → PG (cgen X A' s H (genv X scope C code) fp) tg g)
    (ht : ∀ (s : Shared) (H : Hp) (C : Addr) (code : Value) (fp : List Addr) (A' : Around), GArd X A' → PTs (cgen X A' s H (genv X scope C code) fp) ifs tt)
    (he : ∀ (s : Shared) (H : Hp) (C : Addr) (code : Value) (fp : List Addr) (A' : Around), GArd X A' → PE (cgen X A' s H (genv X scope C code) fp) elt te) :
    PE X (.Call (.Name (if al then "all" else "any") p) [.GeneratorExp elt [⟨tg, iter, ifs, 0⟩] scope gpos] [] pos) (tGa al P wi g tt te (own.map (·.2))) := by
  refine ⟨fun pins s σ H Q I h => ?_⟩
  have he2 : starEach [.GeneratorExp elt [⟨tg, iter, ifs, 0⟩] scope gpos] X.env = (false, eval (.GeneratorExp elt [⟨tg, iter, ifs, 0⟩] scope gpos) X.env) :: starEach [] X.env := rfl
  cases al with
  | true =>
    refine wpAny_Call_Name_kw (ld_blt I hgl hm (by rfl) ?_)
    refine PyProof.Rows.callWith_builtin1 ?_ he2 (by rfl)
    rw [he2]
    show wpAny _ _ (spliced ((false, eval (.GeneratorExp elt [⟨tg, iter, ifs, 0⟩] scope gpos) X.env) :: backTo pos (starEach [] X.env))) _ _ s
    refine Calls.spliced_cons (wpAny_mono (gen_made hc hd TB hcode ok hcell hco dot hN hi hs hg ht he I h) (fun u s5 ⟨a, gi, n, e, st⟩ => ?_) fun _ _ e => e)
    subst e
    refine Calls.spliced_nil ?_
    exact call_all (I.ok.hd hc) hd st fun t s' ⟨H', I', q⟩ => ⟨.bl t, H', I', rfl, q⟩
  | false =>
    refine wpAny_Call_Name_kw (ld_blt I hgl hm boot_any ?_)
    refine PyProof.Rows.callWith_builtin1 ?_ he2 (by rfl)
    rw [he2]
    show wpAny _ _ (spliced ((false, eval (.GeneratorExp elt [⟨tg, iter, ifs, 0⟩] scope gpos) X.env) :: backTo pos (starEach [] X.env))) _ _ s
    refine Calls.spliced_cons (wpAny_mono (gen_made hc hd TB hcode ok hcell hco dot hN hi hs hg ht he I h) (fun u s5 ⟨a, gi, n, e, st⟩ => ?_) fun _ _ e => e)
    subst e
    refine Calls.spliced_nil ?_
    exact call_any (I.ok.hd hc) hd st fun t s' ⟨H', I', q⟩ => ⟨.bl t, H', I', rfl, q⟩
end
end GenY

set_option Elab.async false
set_option linter.all false
/-! ItD: orders and choices. -/
namespace ItP
/-- the orders of l, least first -/
def lexP : Nat → List Nat → List (List Nat)
  | 0, _ => [[]]
  | k + 1, l => l.flatMap fun x => (lexP k (l.erase x)).map (x :: ·)
def permI (n : Nat) : List (List Nat) := lexP n (List.range n)
/-- the choices of r from l, least first -/
def combL : Nat → List Nat → List (List Nat)
  | 0, _ => [[]]
  | _ + 1, [] => []
  | r + 1, x :: l => (combL r l).map (x :: ·) ++ combL (r + 1) l
def combI (n r : Nat) : List (List Nat) := combL r (List.range n)
end ItP

set_option Elab.async false
set_option linter.all false
set_option maxRecDepth 100000
set_option maxHeartbeats 2000000
/-! ItP: itertools.permutations and combinations, at the library's level. -/
namespace ItP
open PySem PySem.Spec PyProof.Rows L2
open Sem (wp)
theorem mro_pm : mroOf (.type "itertools.permutations") = pure [.type "itertools.permutations", .type "object"] := by rw [mroOf_type]; kernel_rfl
theorem new_pm : typeLookup (.type "itertools.permutations") "__new__" = pure (some (.builtin "itertools.permutations.__new__")) := by rw [typeLookup_type, builtinLookup_eq_fast]; kernel_rfl
theorem init_pm : Slot "itertools.permutations" "__init__" "object.__init__" :=
  .of (owner := "object") (n := "__init__") (by rw [typeLookup_type, builtinLookup_eq_fast]; kernel_rfl) (by decide +kernel) (by decide +kernel) (by decide +kernel)
    (by first | exact .inl (by decide +kernel) | exact .inr (by decide +kernel)) (by rw [isSubtype_type]; kernel_rfl)
theorem sub_pm : isSubtype (.type "itertools.permutations") (.type "itertools.permutations") = pure true := by rw [isSubtype_type]; kernel_rfl
theorem called_pm : TypeCalled "itertools.permutations" "itertools.permutations.__new__" "object.__init__" :=
  ⟨by decide +kernel, by decide +kernel, ⟨_, _, mro_pm⟩, madeBy_type mro_pm new_pm (by decide +kernel), by decide +kernel, sub_pm, init_pm⟩
theorem typeCall_pm (a : Value) : checkTypeCall "itertools.permutations" ⟨[a], []⟩ = pure () := by kernel_rfl
theorem newCall_pm (a : Value) : checkBuiltinCall "itertools.permutations.__new__" ⟨[.type "itertools.permutations", a], []⟩ = pure () := by kernel_rfl
theorem entry_pm_new : entryFor table "itertools.permutations.__new__" = some Builtin.«itertools.permutations.__new__» := entryFor_of_tree (by kernel_rfl)
theorem iter_pm : Slot "itertools.permutations" "__iter__" "itertools.permutations.__iter__" :=
  .of (owner := "itertools.permutations") (n := "__iter__") (by rw [typeLookup_type, builtinLookup_eq_fast]; kernel_rfl) (by decide +kernel) (by decide +kernel) (by decide +kernel)
    (by first | exact .inl (by decide +kernel) | exact .inr (by decide +kernel)) sub_pm
theorem next_pm : Slot "itertools.permutations" "__next__" "itertools.permutations.__next__" :=
  .of (owner := "itertools.permutations") (n := "__next__") (by rw [typeLookup_type, builtinLookup_eq_fast]; kernel_rfl) (by decide +kernel) (by decide +kernel) (by decide +kernel)
    (by first | exact .inl (by decide +kernel) | exact .inr (by decide +kernel)) sub_pm
theorem entry_pm_iter : entryFor table "itertools.permutations.__iter__" = some Builtin.«dict_keyiterator.__iter__» :=
  entryFor_alias (id' := "dict_keyiterator.__iter__") (by kernel_rfl) (by first | rfl | decide +kernel | (unfold String.splitOn; simp +decide [String.splitOnAux])) (by decide +kernel) (by kernel_rfl)
theorem entry_pm_next : entryFor table "itertools.permutations.__next__" = some Builtin.«itertools.permutations.__next__» := entryFor_of_tree (by kernel_rfl)
theorem owner_pm : Manifest.owners.lookup (String.ofList "itertools.permutations".toList.reverse.reverse) = some Manifest.sig_itertools_permutations := by kernel_rfl
theorem argsI_pm (a : Value) : argsOk "itertools.permutations.__iter__" ⟨[a], []⟩ := by
  unfold argsOk; rw [signature?_of (id := "itertools.permutations.__iter__") (n := ['_', '_', 'r', 'e', 't', 'i', '_', '_']) (o := "itertools.permutations".toList.reverse) (by kernel_rfl) owner_pm]; kernel_rfl
theorem argsN_pm (a : Value) : argsOk "itertools.permutations.__next__" ⟨[a], []⟩ := by
  unfold argsOk; rw [signature?_of (id := "itertools.permutations.__next__") (n := ['_', '_', 't', 'x', 'e', 'n', '_', '_']) (o := "itertools.permutations".toList.reverse) (by kernel_rfl) owner_pm]; kernel_rfl
theorem noDict_pm : typeHasDict (.type "itertools.permutations") = false := by decide +kernel

theorem mro_cb : mroOf (.type "itertools.combinations") = pure [.type "itertools.combinations", .type "object"] := by rw [mroOf_type]; kernel_rfl
theorem new_cb : typeLookup (.type "itertools.combinations") "__new__" = pure (some (.builtin "itertools.combinations.__new__")) := by rw [typeLookup_type, builtinLookup_eq_fast]; kernel_rfl
theorem init_cb : Slot "itertools.combinations" "__init__" "object.__init__" :=
  .of (owner := "object") (n := "__init__") (by rw [typeLookup_type, builtinLookup_eq_fast]; kernel_rfl) (by decide +kernel) (by decide +kernel) (by decide +kernel)
    (by first | exact .inl (by decide +kernel) | exact .inr (by decide +kernel)) (by rw [isSubtype_type]; kernel_rfl)
theorem sub_cb : isSubtype (.type "itertools.combinations") (.type "itertools.combinations") = pure true := by rw [isSubtype_type]; kernel_rfl
theorem called_cb : TypeCalled "itertools.combinations" "itertools.combinations.__new__" "object.__init__" :=
  ⟨by decide +kernel, by decide +kernel, ⟨_, _, mro_cb⟩, madeBy_type mro_cb new_cb (by decide +kernel), by decide +kernel, sub_cb, init_cb⟩
theorem typeCall_cb (a b : Value) : checkTypeCall "itertools.combinations" ⟨[a, b], []⟩ = pure () := by kernel_rfl
theorem newCall_cb (a b : Value) : checkBuiltinCall "itertools.combinations.__new__" ⟨[.type "itertools.combinations", a, b], []⟩ = pure () := by kernel_rfl
theorem entry_cb_new : entryFor table "itertools.combinations.__new__" = some Builtin.«itertools.combinations.__new__» := entryFor_of_tree (by kernel_rfl)
theorem iter_cb : Slot "itertools.combinations" "__iter__" "itertools.combinations.__iter__" :=
  .of (owner := "itertools.combinations") (n := "__iter__") (by rw [typeLookup_type, builtinLookup_eq_fast]; kernel_rfl) (by decide +kernel) (by decide +kernel) (by decide +kernel)
    (by first | exact .inl (by decide +kernel) | exact .inr (by decide +kernel)) sub_cb
theorem next_cb : Slot "itertools.combinations" "__next__" "itertools.combinations.__next__" :=
  .of (owner := "itertools.combinations") (n := "__next__") (by rw [typeLookup_type, builtinLookup_eq_fast]; kernel_rfl) (by decide +kernel) (by decide +kernel) (by decide +kernel)
    (by first | exact .inl (by decide +kernel) | exact .inr (by decide +kernel)) sub_cb
theorem entry_cb_iter : entryFor table "itertools.combinations.__iter__" = some Builtin.«dict_keyiterator.__iter__» :=
  entryFor_alias (id' := "dict_keyiterator.__iter__") (by kernel_rfl) (by first | rfl | decide +kernel | (unfold String.splitOn; simp +decide [String.splitOnAux])) (by decide +kernel) (by kernel_rfl)
theorem entry_cb_next : entryFor table "itertools.combinations.__next__" = some Builtin.«itertools.combinations.__next__» := entryFor_of_tree (by kernel_rfl)
theorem owner_cb : Manifest.owners.lookup (String.ofList "itertools.combinations".toList.reverse.reverse) = some Manifest.sig_itertools_combinations := by kernel_rfl
theorem argsI_cb (a : Value) : argsOk "itertools.combinations.__iter__" ⟨[a], []⟩ := by
  unfold argsOk; rw [signature?_of (id := "itertools.combinations.__iter__") (n := ['_', '_', 'r', 'e', 't', 'i', '_', '_']) (o := "itertools.combinations".toList.reverse) (by kernel_rfl) owner_cb]; kernel_rfl
theorem argsN_cb (a : Value) : argsOk "itertools.combinations.__next__" ⟨[a], []⟩ := by
  unfold argsOk; rw [signature?_of (id := "itertools.combinations.__next__") (n := ['_', '_', 't', 'x', 'e', 'n', '_', '_']) (o := "itertools.combinations".toList.reverse) (by kernel_rfl) owner_cb]; kernel_rfl
theorem noDict_cb : typeHasDict (.type "itertools.combinations") = false := by decide +kernel
end ItP

set_option Elab.async false
set_option linter.all false
set_option maxRecDepth 100000
/-! ItQ: what permutations and combinations hand out. -/
namespace ItP
open PySem PySem.Spec PyProof.Rows L2
/-- the iterator's record -/
abbrev Rec (T : String) (h : Heap) (it : Addr) (fs : List Value) : Prop := h.get? it = some { cls := .type T, dict := none, data := .fields fs.toArray, slots := #[] }
def nums (l : List Nat) : List Value := l.map fun (i : Nat) => rawInt (i : Int)
abbrev Tup (h : Heap) (a : Addr) (us : List Value) : Prop := h.get? a = some { cls := .type "tuple", dict := none, data := .seq us.toArray, slots := #[] }
def at_ (us : List Value) (l : List Nat) : List Value := l.map fun i => us.toArray.getD i .none
/-- how many places are still to come at each place -/
def cyc : List Nat → List Nat
  | [] => []
  | x :: r => (r.length + 1 - (r.filter fun y => decide (y < x)).length) :: cyc r
def chain {α : Type} (g : α → α → Bool) (e : α → Bool) : List α → Bool
  | [] => true
  | [a] => e a
  | a :: b :: r => g a b && chain g e (b :: r)
def tabP (f : Nat → Nat → List Nat → List Nat → Option (List Nat × List Nat)) : Bool :=
  (List.range 6).all fun n => chain (fun p q => decide (f n n p (cyc p) = some (q, cyc q))) (fun p => decide (f n n p (cyc p) = none)) (permI n)
def tabC (f : Nat → List Nat → Option (List Nat)) : Bool :=
  (List.range 9).all fun n => (List.range (n + 1)).all fun r => chain (fun p q => decide (f n p = some q)) (fun p => decide (f n p = none)) (combI n r)
section
variable {prog : Program} {w : World} {A : Around} {E : Value → Shared → Prop} {s : Shared}
theorem w_numbers {T : String} {it : Addr} {fs : List Value} {k : Nat} {Q : List Nat → Shared → Prop} (hit : Rec T s.heap it fs) (h : Q ((fs.drop k).map fun | .int n _ => n.toNat | _ => 0) s) :
    wpAny (model prog w) A (Builtin.Itertools.itNumbersFrom (.ref it) k) Q E s := by
  unfold Builtin.Itertools.itNumbersFrom
  refine wpAny_bind (wpAny_load hit (wpAny_pure ?_))
  exact h
theorem nums_of (l : List Nat) : ((nums l).map fun | .int n _ => n.toNat | _ => 0) = l := by
  unfold nums
  rw [List.map_map]
  conv => rhs; rw [← List.map_id l]
  refine List.map_congr_left fun a _ => ?_
  show (rawInt (a : Int) |> fun | .int n _ => n.toNat | _ => 0) = a
  simp [rawInt]
theorem hand_out {T : String} {it : Addr} {h1 : Heap} {before : Value} {a b c : Value} {l : List Nat} {vs : List Value} {Q : Fin → Shared → Prop} (sb : Heap.SameBut it s.heap h1) (hit : Rec T h1 it ([a, b, c, before] ++ nums l)) (hs : vs.length ≤ 1000)
    (hQ : ∀ h', Rec T h' it ([a, b, c, .ref s.heap.objs.size] ++ nums l) → Tup h' s.heap.objs.size vs → (∀ x o, x ≠ it → s.heap.get? x = some o → h'.get? x = some o) → Q (.done (.ret (.ref s.heap.objs.size))) { s with heap := h' }) :
    wpAny (model prog w) A (do
      let t ← newTuple vs
      let before ← field (.ref it) 3
      setField (.ref it) 3 t
      letGo [before] [t]
      ret t) Q E { s with heap := h1 } := by
  have hsz : h1.objs.size = s.heap.objs.size := sb.1
  unfold newTuple
  refine wpAny_bind (wpAny_newObj_type ?_ ?_)
  · have h2 : Rec T (h1.push { cls := .type "tuple", data := .seq vs.toArray }) it ([a, b, c, before] ++ nums l) := Heap.get?_push_of_some _ hit
    refine wpAny_bind (wpAny_field h2 rfl (x := before) rfl ?_)
    refine wpAny_bind (wpAny_setField h2 rfl (by simp) ?_)
    refine wpAny_bind (wpAny_letGo (wpAny_pure ?_))
    have hne : s.heap.objs.size ≠ it := by
      have := Heap.lt_size hit
      rw [hsz] at this
      exact Nat.ne_of_gt this
    have hT : (h1.push { cls := .type "tuple", data := .seq vs.toArray }).get? s.heap.objs.size = some { cls := .type "tuple", data := .seq vs.toArray } := by
      rw [← hsz]; exact Heap.get?_push_size _ rfl
    rw [hsz]
    refine hQ _ ?_ ?_ ?_
    · refine (Heap.get?_update_self _ h2 rfl).trans ?_
      simp [Obj.mapFields]
    · exact (Heap.get?_update_ne _ _ _ _ hne).trans hT
    · intro x o hx ho
      exact (Heap.get?_update_ne _ _ _ _ hx).trans (Heap.get?_push_of_some _ ((sb.2 x hx).trans ho))
  · show vs.toArray.size ≤ sizeLine
    rw [sizeLine_eq]
    simp
    omega
theorem pm_first {it pool : Addr} {r : Nat} {us : List Value} {l : List Nat} {Q : Option Value → Shared → Prop} (hit : Rec "itertools.permutations" s.heap it ([.ref pool, .int 0 0, .int r 0, .none] ++ nums l)) (hp : Tup s.heap pool us)
    (hr : r ≤ 1000)
    (hQ : ∀ h', Rec "itertools.permutations" h' it ([.ref pool, .int 1 0, .int r 0, .ref s.heap.objs.size] ++ nums l) → Tup h' s.heap.objs.size (at_ us (l.take r)) → (∀ b o, b ≠ it → s.heap.get? b = some o → h'.get? b = some o) → Q (some (.ref s.heap.objs.size)) { s with heap := h' }) :
    wpAny (model prog w) A (callSpecial? (.ref it) "__next__") Q E s := by
  have hT : s.TypeIs (.ref it) "itertools.permutations" := ⟨_, hit, rfl⟩
  refine wpAny_callSpecial?_slot (name := Str.ofString "__next__") hT next_pm (wpAny_call_entry next_pm hT entry_pm_next ?_ (argsN_pm _))
  show wpAny _ _ (field (.ref it) 0 >>= fun x => Builtin.Itertools.itPoolItems x >>= _) _ _ s
  refine wpAny_bind (wpAny_field hit rfl (x := .ref pool) rfl (wpAny_bind ?_))
  show wpAny _ _ (seqItems? (.ref pool) >>= _) _ _ s
  refine wpAny_bind (wpAny_seqItems hp rfl (wpAny_pure ?_))
  show wpAny _ _ ((field (.ref it) 2 >>= _) >>= _) _ _ s
  refine wpAny_bind (wpAny_bind (wpAny_field hit rfl (x := .int r 0) rfl (wpAny_pure ?_)))
  refine wpAny_bind (w_numbers hit ?_)
  show wpAny _ _ ((field (.ref it) 1 >>= _) >>= _) _ _ s
  refine wpAny_bind (wpAny_bind (wpAny_field hit rfl (x := .int 0 0) rfl (wpAny_pure ?_)))
  show wpAny _ _ (setField (.ref it) 1 (rawInt 1) >>= _) _ _ s
  refine wpAny_bind (wpAny_setField hit rfl (by simp) ?_)
  have e1 : (([.ref pool, .int 0 0, .int r 0, .none] ++ nums l : List Value).drop 4).map (fun | .int n _ => n.toNat | _ => 0) = l := nums_of l
  rw [e1]
  have hit1 : Rec "itertools.permutations" (s.heap.update it (Obj.mapFields fun x => x.setIfInBounds 1 (rawInt 1))) it ([.ref pool, .int 1 0, .int r 0, .none] ++ nums l) := by
    refine (Heap.get?_update_self _ hit rfl).trans ?_
    simp [Obj.mapFields, rawInt]
  refine hand_out (vs := at_ us (l.take r)) (Heap.SameBut.update ..) hit1 ?_ fun h' a1 a2 a3 => ⟨_, rfl, hQ h' a1 a2 a3⟩
  unfold at_
  rw [List.length_map, List.length_take]
  omega
theorem stop_ {α : Type} {it : Addr} {h1 : Heap} {Q : α → Shared → Prop} (hh : A.handled = none) (sb : Heap.SameBut it s.heap h1) (hQ : ∀ e h', CpRep.StopE e h' → Heap.ExtBut it s.heap h' → E e { s with heap := h' }) :
    wpAny (model prog w) A (Builtin.Itertools.itStop : Sem α) Q E { s with heap := h1 } := by
  show wpAny _ _ (newExc (.type "StopIteration") [] >>= _) _ _ _
  refine wpAny_bind ?_
  simp only [newExc, newTuple]
  refine wpAny_bind (wpAny_newObj_type ?_ (by size_fits))
  refine wpAny_bind (m := firstArgMember _ _) (wpAny_of_eq (a := Value.none) (by first | rfl | (simp only [firstArgMember]; rfl)) ?_)
  refine wpAny_newObj_type ?_ (by size_fits)
  simp only [raiseNew]
  refine wpAny_bind (wpAny_handled ?_)
  rw [hh]
  refine wpAny_bind (wpAny_pure (wpAny_throw ?_))
  exact hQ _ _ ⟨_, _, _, rfl, Heap.get?_push_size _ rfl, rfl, rfl, rfl⟩ ((sb.extBut.push _).push _)
theorem pm_raw : ∃ f : Nat → Nat → List Nat → List Nat → Option (List Nat × List Nat), tabP f = true ∧
    (∀ {prog : Program} {w : World} {A : Around} {E : Value → Shared → Prop} {s : Shared} {it pool : Addr} {r : Nat} {us : List Value} {before : Value} {l l1 l2 : List Nat} {Q : Option Value → Shared → Prop},
      Rec "itertools.permutations" s.heap it ([.ref pool, .int 1 0, .int r 0, before] ++ nums l) → Tup s.heap pool us → r ≤ 1000 → l1.length + l2.length ≤ 1000 → f us.toArray.size (r : Int).toNat (l.take us.toArray.size) (l.drop us.toArray.size) = some (l1, l2) →
      (∀ h', Rec "itertools.permutations" h' it ([.ref pool, .int 1 0, .int r 0, .ref s.heap.objs.size] ++ nums (l1 ++ l2)) → Tup h' s.heap.objs.size (at_ us (l1.take r)) → (∀ b o, b ≠ it → s.heap.get? b = some o → h'.get? b = some o) → Q (some (.ref s.heap.objs.size)) { s with heap := h' }) →
      wpAny (model prog w) A (callSpecial? (.ref it) "__next__") Q E s) ∧
    (∀ {prog : Program} {w : World} {A : Around} {E : Value → Shared → Prop} {s : Shared} {it pool : Addr} {r : Nat} {us : List Value} {before : Value} {l : List Nat} {Q : Option Value → Shared → Prop},
      A.handled = none → Rec "itertools.permutations" s.heap it ([.ref pool, .int 1 0, .int r 0, before] ++ nums l) → Tup s.heap pool us → f us.toArray.size (r : Int).toNat (l.take us.toArray.size) (l.drop us.toArray.size) = none →
      (∀ e h', CpRep.StopE e h' → Heap.ExtBut it s.heap h' → E e { s with heap := h' }) →
      wpAny (model prog w) A (callSpecial? (.ref it) "__next__") Q E s) := by
  apply Exists.intro
  apply And.intro
  rotate_left
  apply And.intro
  · intro prog w A E s it pool r us before l l1 l2 Q hit hp hr hl hf hQ
    have hT : s.TypeIs (.ref it) "itertools.permutations" := ⟨_, hit, rfl⟩
    refine wpAny_callSpecial?_slot (name := Str.ofString "__next__") hT next_pm (wpAny_call_entry next_pm hT entry_pm_next ?_ (argsN_pm _))
    show wpAny _ _ (field (.ref it) 0 >>= fun x => Builtin.Itertools.itPoolItems x >>= _) _ _ s
    refine wpAny_bind (wpAny_field hit rfl (x := .ref pool) rfl (wpAny_bind ?_))
    show wpAny _ _ (seqItems? (.ref pool) >>= _) _ _ s
    refine wpAny_bind (wpAny_seqItems hp rfl (wpAny_pure ?_))
    show wpAny _ _ ((field (.ref it) 2 >>= _) >>= _) _ _ s
    refine wpAny_bind (wpAny_bind (wpAny_field hit rfl (x := .int r 0) rfl (wpAny_pure ?_)))
    refine wpAny_bind (w_numbers hit ?_)
    show wpAny _ _ ((field (.ref it) 1 >>= _) >>= _) _ _ s
    refine wpAny_bind (wpAny_bind (wpAny_field hit rfl (x := .int 1 0) rfl (wpAny_pure ?_)))
    have e1 : (([.ref pool, .int 1 0, .int r 0, before] ++ nums l : List Value).drop 4).map (fun | .int n _ => n.toNat | _ => 0) = l := nums_of l
    rw [e1]
    split
    · rename_i h; exact absurd h (by decide)
    · split
      · rename_i i1 c1 heq
        have := hf.symm.trans heq
        obtain ⟨rfl, rfl⟩ := Prod.mk.inj (Option.some.inj this)
        show wpAny _ _ (updateFields it _ >>= _) _ _ s
        refine wpAny_bind (wpAny_updateFields hit rfl ?_ ?_)
        · have hit1 : Rec "itertools.permutations" (s.heap.update it (Obj.mapFields fun fs => fs.extract 0 4 ++ ((l1 ++ l2).map fun (n : Nat) => rawInt n).toArray)) it ([.ref pool, .int 1 0, .int r 0, before] ++ nums (l1 ++ l2)) := by
            refine (Heap.get?_update_self _ hit rfl).trans ?_
            simp [Obj.mapFields, nums]
          refine hand_out (vs := at_ us (l1.take r)) (Heap.SameBut.update ..) hit1 ?_ fun h' a1 a2 a3 => ⟨_, rfl, hQ h' a1 a2 a3⟩
          unfold at_
          rw [List.length_map, List.length_take]
          omega
        · rw [sizeLine_eq]
          simp
          omega
      · rename_i heq
        have := hf.symm.trans heq
        cases this
    · rename_i h; exact absurd rfl h
  · intro prog w A E s it pool r us before l Q hh hit hp hf hQ
    have hT : s.TypeIs (.ref it) "itertools.permutations" := ⟨_, hit, rfl⟩
    refine wpAny_callSpecial?_slot (name := Str.ofString "__next__") hT next_pm (wpAny_call_entry next_pm hT entry_pm_next ?_ (argsN_pm _))
    show wpAny _ _ (field (.ref it) 0 >>= fun x => Builtin.Itertools.itPoolItems x >>= _) _ _ s
    refine wpAny_bind (wpAny_field hit rfl (x := .ref pool) rfl (wpAny_bind ?_))
    show wpAny _ _ (seqItems? (.ref pool) >>= _) _ _ s
    refine wpAny_bind (wpAny_seqItems hp rfl (wpAny_pure ?_))
    show wpAny _ _ ((field (.ref it) 2 >>= _) >>= _) _ _ s
    refine wpAny_bind (wpAny_bind (wpAny_field hit rfl (x := .int r 0) rfl (wpAny_pure ?_)))
    refine wpAny_bind (w_numbers hit ?_)
    show wpAny _ _ ((field (.ref it) 1 >>= _) >>= _) _ _ s
    refine wpAny_bind (wpAny_bind (wpAny_field hit rfl (x := .int 1 0) rfl (wpAny_pure ?_)))
    have e1 : (([.ref pool, .int 1 0, .int r 0, before] ++ nums l : List Value).drop 4).map (fun | .int n _ => n.toNat | _ => 0) = l := nums_of l
    rw [e1]
    split
    · rename_i h; exact absurd h (by decide)
    · split
      · rename_i i1 c1 heq
        have := hf.symm.trans heq
        cases this
      · show wpAny _ _ (setField (.ref it) 1 (rawInt 2) >>= _) _ _ s
        refine wpAny_bind (wpAny_setField hit rfl (by simp) ?_)
        exact stop_ hh (Heap.SameBut.update ..) hQ
    · rename_i h; exact absurd rfl h
  · kernel_rfl
end
section
variable {prog : Program} {w : World} {A : Around} {E : Value → Shared → Prop} {s : Shared}
theorem hand_outC {T : String} {it pool : Addr} {h1 : Heap} {before b : Value} {l x : List Nat} {us : List Value} {Q : Fin → Shared → Prop} (sb : Heap.SameBut it s.heap h1) (hit : Rec T h1 it ([.ref pool, b, before] ++ nums l)) (hp : Tup h1 pool us) (hs : x.length ≤ 1000)
    (hQ : ∀ h', Rec T h' it ([.ref pool, b, .ref s.heap.objs.size] ++ nums l) → Tup h' s.heap.objs.size (at_ us x) → (∀ x o, x ≠ it → s.heap.get? x = some o → h'.get? x = some o) → Q (.done (.ret (.ref s.heap.objs.size))) { s with heap := h' }) :
    wpAny (model prog w) A (do
      let t ← (do
        let items ← Builtin.Itertools.itPoolItems (.ref pool)
        newTuple (x.map fun i => items.getD i .none))
      let before ← field (.ref it) 2
      setField (.ref it) 2 t
      letGo [before] [t]
      ret t) Q E { s with heap := h1 } := by
  have hsz : h1.objs.size = s.heap.objs.size := sb.1
  refine wpAny_bind (wpAny_bind ?_)
  show wpAny _ _ (seqItems? (.ref pool) >>= _) _ _ _
  refine wpAny_bind (wpAny_seqItems hp rfl (wpAny_pure ?_))
  show wpAny _ _ (newTuple (at_ us x)) _ _ _
  unfold newTuple
  refine wpAny_newObj_type ?_ ?_
  · have h2 : Rec T (h1.push { cls := .type "tuple", data := .seq (at_ us x).toArray }) it ([.ref pool, b, before] ++ nums l) := Heap.get?_push_of_some _ hit
    refine wpAny_bind (wpAny_field h2 rfl (x := before) rfl ?_)
    refine wpAny_bind (wpAny_setField h2 rfl (by simp) ?_)
    refine wpAny_bind (wpAny_letGo (wpAny_pure ?_))
    have hne : s.heap.objs.size ≠ it := by
      have := Heap.lt_size hit
      rw [hsz] at this
      exact Nat.ne_of_gt this
    have hT : (h1.push { cls := .type "tuple", data := .seq (at_ us x).toArray }).get? s.heap.objs.size = some { cls := .type "tuple", data := .seq (at_ us x).toArray } := by
      rw [← hsz]; exact Heap.get?_push_size _ rfl
    rw [hsz]
    refine hQ _ ?_ ?_ ?_
    · refine (Heap.get?_update_self _ h2 rfl).trans ?_
      simp [Obj.mapFields]
    · exact (Heap.get?_update_ne _ _ _ _ hne).trans hT
    · intro x o hx ho
      exact (Heap.get?_update_ne _ _ _ _ hx).trans (Heap.get?_push_of_some _ ((sb.2 x hx).trans ho))
  · show (at_ us x).toArray.size ≤ sizeLine
    rw [sizeLine_eq]
    unfold at_
    simp
    omega
theorem cb_first {it pool : Addr} {us : List Value} {l : List Nat} {Q : Option Value → Shared → Prop} (hit : Rec "itertools.combinations" s.heap it ([.ref pool, .int 0 0, .none] ++ nums l)) (hp : Tup s.heap pool us) (hne : pool ≠ it)
    (hr : l.length ≤ 1000)
    (hQ : ∀ h', Rec "itertools.combinations" h' it ([.ref pool, .int 1 0, .ref s.heap.objs.size] ++ nums l) → Tup h' s.heap.objs.size (at_ us l) → (∀ b o, b ≠ it → s.heap.get? b = some o → h'.get? b = some o) → Q (some (.ref s.heap.objs.size)) { s with heap := h' }) :
    wpAny (model prog w) A (callSpecial? (.ref it) "__next__") Q E s := by
  have hT : s.TypeIs (.ref it) "itertools.combinations" := ⟨_, hit, rfl⟩
  refine wpAny_callSpecial?_slot (name := Str.ofString "__next__") hT next_cb (wpAny_call_entry next_cb hT entry_cb_next ?_ (argsN_cb _))
  show wpAny _ _ (field (.ref it) 0 >>= fun x => Builtin.Itertools.itNumbersFrom (.ref it) 3 >>= _) _ _ s
  refine wpAny_bind (wpAny_field hit rfl (x := .ref pool) rfl (wpAny_bind (w_numbers hit ?_)))
  show wpAny _ _ ((field (.ref it) 1 >>= _) >>= _) _ _ s
  refine wpAny_bind (wpAny_bind (wpAny_field hit rfl (x := .int 0 0) rfl (wpAny_pure ?_)))
  show wpAny _ _ (setField (.ref it) 1 (rawInt 1) >>= _) _ _ s
  refine wpAny_bind (wpAny_setField hit rfl (by simp) ?_)
  have e1 : (([.ref pool, .int 0 0, .none] ++ nums l : List Value).drop 3).map (fun | .int n _ => n.toNat | _ => 0) = l := nums_of l
  rw [e1]
  have hit1 : Rec "itertools.combinations" (s.heap.update it (Obj.mapFields fun x => x.setIfInBounds 1 (rawInt 1))) it ([.ref pool, .int 1 0, .none] ++ nums l) := by
    refine (Heap.get?_update_self _ hit rfl).trans ?_
    simp [Obj.mapFields, rawInt]
  exact hand_outC (Heap.SameBut.update ..) hit1 ((Heap.get?_update_ne _ _ _ _ hne).trans hp) hr fun h' a1 a2 a3 => ⟨_, rfl, hQ h' a1 a2 a3⟩
theorem cb_over {it pool : Addr} {l : List Nat} {before : Value} {Q : Option Value → Shared → Prop} (hh : A.handled = none) (hit : Rec "itertools.combinations" s.heap it ([.ref pool, .int 2 0, before] ++ nums l))
    (hQ : ∀ e h', CpRep.StopE e h' → Heap.ExtBut it s.heap h' → E e { s with heap := h' }) :
    wpAny (model prog w) A (callSpecial? (.ref it) "__next__") Q E s := by
  have hT : s.TypeIs (.ref it) "itertools.combinations" := ⟨_, hit, rfl⟩
  refine wpAny_callSpecial?_slot (name := Str.ofString "__next__") hT next_cb (wpAny_call_entry next_cb hT entry_cb_next ?_ (argsN_cb _))
  show wpAny _ _ (field (.ref it) 0 >>= fun x => Builtin.Itertools.itNumbersFrom (.ref it) 3 >>= _) _ _ s
  refine wpAny_bind (wpAny_field hit rfl (x := .ref pool) rfl (wpAny_bind (w_numbers hit ?_)))
  show wpAny _ _ ((field (.ref it) 1 >>= _) >>= _) _ _ s
  refine wpAny_bind (wpAny_bind (wpAny_field hit rfl (x := .int 2 0) rfl (wpAny_pure ?_)))
  show wpAny _ _ (rule _ >>= _) _ _ s
  refine wpAny_bind (wpAny_rule ?_)
  exact stop_ hh (Heap.SameBut.refl it s.heap) hQ
end
theorem cb_raw : ∃ f : Nat → List Nat → Option (List Nat), tabC f = true ∧
    (∀ {prog : Program} {w : World} {A : Around} {E : Value → Shared → Prop} {s : Shared} {it pool : Addr} {us : List Value} {before : Value} {l l1 : List Nat} {Q : Option Value → Shared → Prop},
      Rec "itertools.combinations" s.heap it ([.ref pool, .int 1 0, before] ++ nums l) → Tup s.heap pool us → pool ≠ it → l1.length ≤ 1000 → f us.toArray.size l = some l1 →
      (∀ h', Rec "itertools.combinations" h' it ([.ref pool, .int 1 0, .ref s.heap.objs.size] ++ nums l1) → Tup h' s.heap.objs.size (at_ us l1) → (∀ b o, b ≠ it → s.heap.get? b = some o → h'.get? b = some o) → Q (some (.ref s.heap.objs.size)) { s with heap := h' }) →
      wpAny (model prog w) A (callSpecial? (.ref it) "__next__") Q E s) ∧
    (∀ {prog : Program} {w : World} {A : Around} {E : Value → Shared → Prop} {s : Shared} {it pool : Addr} {us : List Value} {before : Value} {l : List Nat} {Q : Option Value → Shared → Prop},
      A.handled = none → Rec "itertools.combinations" s.heap it ([.ref pool, .int 1 0, before] ++ nums l) → Tup s.heap pool us → f us.toArray.size l = none →
      (∀ e h', CpRep.StopE e h' → Heap.ExtBut it s.heap h' → E e { s with heap := h' }) →
      wpAny (model prog w) A (callSpecial? (.ref it) "__next__") Q E s) := by
  apply Exists.intro
  apply And.intro
  rotate_left
  apply And.intro
  · intro prog w A E s it pool us before l l1 Q hit hp hne hl hf hQ
    have hT : s.TypeIs (.ref it) "itertools.combinations" := ⟨_, hit, rfl⟩
    refine wpAny_callSpecial?_slot (name := Str.ofString "__next__") hT next_cb (wpAny_call_entry next_cb hT entry_cb_next ?_ (argsN_cb _))
    show wpAny _ _ (field (.ref it) 0 >>= fun x => Builtin.Itertools.itNumbersFrom (.ref it) 3 >>= _) _ _ s
    refine wpAny_bind (wpAny_field hit rfl (x := .ref pool) rfl (wpAny_bind (w_numbers hit ?_)))
    show wpAny _ _ ((field (.ref it) 1 >>= _) >>= _) _ _ s
    refine wpAny_bind (wpAny_bind (wpAny_field hit rfl (x := .int 1 0) rfl (wpAny_pure ?_)))
    show wpAny _ _ ((seqItems? (.ref pool) >>= _) >>= _) _ _ s
    refine wpAny_bind (wpAny_bind (wpAny_seqItems hp rfl (wpAny_pure ?_)))
    have e1 : (([.ref pool, .int 1 0, before] ++ nums l : List Value).drop 3).map (fun | .int n _ => n.toNat | _ => 0) = l := nums_of l
    rw [e1]
    split
    · rename_i i1 heq
      have := hf.symm.trans heq
      obtain rfl := Option.some.inj this
      show wpAny _ _ (updateFields it _ >>= _) _ _ s
      refine wpAny_bind (wpAny_updateFields hit rfl ?_ ?_)
      · have hit1 : Rec "itertools.combinations" (s.heap.update it (Obj.mapFields fun fs => fs.extract 0 3 ++ (l1.map fun (n : Nat) => rawInt n).toArray)) it ([.ref pool, .int 1 0, before] ++ nums l1) := by
          refine (Heap.get?_update_self _ hit rfl).trans ?_
          simp [Obj.mapFields, nums]
        exact hand_outC (Heap.SameBut.update ..) hit1 ((Heap.get?_update_ne _ _ _ _ hne).trans hp) hl fun h' a1 a2 a3 => ⟨_, rfl, hQ h' a1 a2 a3⟩
      · rw [sizeLine_eq]
        simp
        omega
    · rename_i heq
      have := hf.symm.trans heq
      cases this
  · intro prog w A E s it pool us before l Q hh hit hp hf hQ
    have hT : s.TypeIs (.ref it) "itertools.combinations" := ⟨_, hit, rfl⟩
    refine wpAny_callSpecial?_slot (name := Str.ofString "__next__") hT next_cb (wpAny_call_entry next_cb hT entry_cb_next ?_ (argsN_cb _))
    show wpAny _ _ (field (.ref it) 0 >>= fun x => Builtin.Itertools.itNumbersFrom (.ref it) 3 >>= _) _ _ s
    refine wpAny_bind (wpAny_field hit rfl (x := .ref pool) rfl (wpAny_bind (w_numbers hit ?_)))
    show wpAny _ _ ((field (.ref it) 1 >>= _) >>= _) _ _ s
    refine wpAny_bind (wpAny_bind (wpAny_field hit rfl (x := .int 1 0) rfl (wpAny_pure ?_)))
    show wpAny _ _ ((seqItems? (.ref pool) >>= _) >>= _) _ _ s
    refine wpAny_bind (wpAny_bind (wpAny_seqItems hp rfl (wpAny_pure ?_)))
    have e1 : (([.ref pool, .int 1 0, before] ++ nums l : List Value).drop 3).map (fun | .int n _ => n.toNat | _ => 0) = l := nums_of l
    rw [e1]
    split
    · rename_i i1 heq
      have := hf.symm.trans heq
      cases this
    · show wpAny _ _ (setField (.ref it) 1 (rawInt 2) >>= _) _ _ s
      refine wpAny_bind (wpAny_setField hit rfl (by simp) ?_)
      exact stop_ hh (Heap.SameBut.update ..) hQ
  · kernel_rfl
end ItP

set_option Elab.async false
set_option linter.all false
set_option maxRecDepth 100000
set_option maxHeartbeats 2000000
/-! ItR: permutations(..), combinations(..): the calls. -/
namespace ItP
open PySem PySem.Spec PyProof.Rows L2
open Sem (wp)
/-- what collect makes of x -/
def Coll (prog : Program) (w : World) (s : Shared) (x : Value) (xs : List V) : Prop := ∀ (A : Around) (E : Value → Shared → Prop) (Q : List Value → Shared → Prop), A.handled = none →
  (∀ (h' : Heap) (tk : Nat) (us : List Value), (∀ b o, s.heap.get? b = some o → h'.get? b = some o) → Vals xs us → Q us { s with heap := h', toks := tk }) → wpAny (model prog w) A (collect x) Q E s
theorem coll_range {prog : Program} {w : World} {s : Shared} {r : Addr} {t u v : Tok} {n : Nat} (hr : IsRange s.heap r 0 n 1 t u v) (hn : n ≤ 1000) : Coll prog w s (.ref r) ((List.range n).map fun i => V.int (i : Nat)) := by
  intro A E Q hh hQ
  refine collect_range hh hr (small_one (by omega) (by omega) (by omega) (by omega)) (rangeSize_nat 0 n) (by omega) fun h' tk acc hk hacc => hQ h' tk acc.toList hk ?_
  have := vals_rg (a := 0) (b := (n : Int)) hacc
  unfold rgV at this
  simpa using this
theorem coll_list {X : Cx} {pins : List (Addr × Obj)} {σ : L2.St} {H : Hp} {s : Shared} {a : Addr} {xs : List V} (I : Inv X pins σ H s) (h : SqL X.K H a xs) : Coll X.prog X.w s (.ref a) xs := by
  intro A E Q hh hQ
  obtain ⟨its, rv, ⟨o, n, ho, hc, _, hd⟩, hz⟩ := I.list h
  refine wpAny_collect_seq a (.inl rfl) ho hc hd (fun h' hk => hQ h' s.toks _ hk (by simpa using rv)) ?_
  rw [List.size_toArray, ← rv.length]; exact hz
theorem coll_tup {X : Cx} {pins : List (Addr × Obj)} {σ : L2.St} {H : Hp} {s : Shared} {a : Addr} {xs : List V} (I : Inv X pins σ H s) (h : SqT X.K H a xs) : Coll X.prog X.w s (.ref a) xs := by
  intro A E Q hh hQ
  obtain ⟨its, rv, ⟨o, ho, hc, n, hd⟩, hz⟩ := I.tuple h
  refine wpAny_collect_seq a (.inr rfl) ho hc hd (fun h' hk => hQ h' s.toks _ hk (by simpa using rv)) ?_
  rw [List.size_toArray, ← rv.length]; exact hz
theorem pm_new {prog : Program} {w : World} {x : Value} {xs : List V} (hn : xs.length ≤ 1000) :
    MeetsIn prog w (Builtin.«itertools.permutations.__new__» ⟨[.type "itertools.permutations", x], []⟩)
      (fun A R s => A.handled = none ∧ Coll prog w s x xs ∧ ∀ (h' : Heap) (tk : Nat) (us : List Value), (∀ b o, s.heap.get? b = some o → h'.get? b = some o) → Vals xs us →
        R (.ok (.ret (.ref (h'.push { cls := .type "tuple", data := .seq us.toArray }).objs.size))) { s with heap := (h'.push { cls := .type "tuple", data := .seq us.toArray }).push { cls := .type "itertools.permutations", data := (.fields ([Value.ref h'.objs.size, Value.int 0 0, Value.int us.length 0, Value.none] ++ nums (List.range us.length ++ (List.range us.length).map fun i => us.length - i)).toArray : Data) }, toks := tk }) := by
  intro A R s ⟨hh, hC, hQ⟩
  have hh1 : A.in1.handled = none := hh
  show wpAny _ _ (Builtin.Itertools.itClassAndRest "permutations" _ >>= _) _ _ s
  have hsub : isSubtype (.type "itertools.permutations") (.type ("itertools." ++ "permutations")) = pure true := by
    rw [show ("itertools." ++ "permutations" : String) = "itertools.permutations" by decide +kernel]; exact sub_pm
  have hd := noDict_pm
  have hC' : ∀ {E : Value → Shared → Prop} {Q : List Value → Shared → Prop}, (∀ (h' : Heap) (tk : Nat) (us : List Value), (∀ b o, s.heap.get? b = some o → h'.get? b = some o) → Vals xs us → Q us { s with heap := h', toks := tk }) → wpAny (model prog w) A.in1 (collect x) Q E s := fun {E Q} hq => hC A.in1 E Q hh1 hq
  wp_walk using hC'
  intro h' tk us hk hv
  have hlen := hv.length
  have hfin := hQ h' tk us hk hv
  have hnm : Builtin.Itertools.itTooMany (us.length : Int) = false := by unfold Builtin.Itertools.itTooMany; exact decide_eq_false (by omega)
  show wpAny _ _ (pure (us.length : Int) >>= _) _ _ _
  refine wpAny_bind (wpAny_pure ?_)
  show wpAny _ _ (if ((us.length : Int)) < 0 then _ else _) _ _ _
  rw [if_neg (by omega)]
  show wpAny _ _ (if Builtin.Itertools.itTooMany (us.length : Int) = true then _ else _) _ _ _
  rw [if_neg (by rw [hnm]; decide)]
  show wpAny _ _ (newTuple us >>= _) _ _ _
  refine wpAny_bind (wpAny_newObj_type ?_ (by show us.toArray.size ≤ sizeLine; rw [sizeLine_eq]; simp; omega))
  show wpAny _ _ (Builtin.Itertools.itNewRecord (.type "itertools.permutations") _ >>= _) _ _ _
  unfold Builtin.Itertools.itNewRecord
  rw [hd]
  refine wpAny_bind ?_
  rw [if_pos (by decide)]
  have ef : ([Value.ref h'.objs.size, rawInt (if (us.length : Int).toNat > us.length then 2 else 0), rawInt ((us.length : Int).toNat : Int), Value.none] ++ List.map (fun (i : Nat) => rawInt (i : Int)) (List.range us.length) ++
      List.map (fun (i : Nat) => rawInt ((us.length : Int) - i)) (List.range (us.length : Int).toNat) : List Value) = [Value.ref h'.objs.size, Value.int 0 0, Value.int us.length 0, Value.none] ++ nums (List.range us.length ++ (List.range us.length).map fun i => us.length - i) := by
    unfold nums
    rw [List.map_append, List.map_map, List.append_assoc, Int.toNat_natCast, if_neg (by omega)]
    refine congrArg ([Value.ref h'.objs.size, Value.int 0 0, Value.int us.length 0, Value.none] ++ ·) (congrArg (List.map (fun (i : Nat) => rawInt (i : Int)) (List.range us.length) ++ ·) (List.map_congr_left fun a ha => ?_))
    have := List.mem_range.mp ha
    show rawInt _ = rawInt _
    congr 1
    show (us.length : Int) - (a : Int) = ((us.length - a : Nat) : Int)
    omega
  rw [ef]
  refine wpAny_newObj_type ?_ ?_
  · exact wpAny_pure hfin
  · show (_ : List Value).toArray.size ≤ sizeLine + 2
    rw [sizeLine_eq]
    simp [nums]
    omega
theorem cb_new {prog : Program} {w : World} {x : Value} {xs : List V} {k : Nat} {tt : Tok} (hn : xs.length ≤ 1000) (hk0 : k ≤ 1000) :
    MeetsIn prog w (Builtin.«itertools.combinations.__new__» ⟨[.type "itertools.combinations", x, .int k tt], []⟩)
      (fun A R s => A.handled = none ∧ Coll prog w s x xs ∧ ∀ (h' : Heap) (tk : Nat) (us : List Value), (∀ b o, s.heap.get? b = some o → h'.get? b = some o) → Vals xs us →
        R (.ok (.ret (.ref (h'.push { cls := .type "tuple", data := .seq us.toArray }).objs.size))) { s with heap := (h'.push { cls := .type "tuple", data := .seq us.toArray }).push { cls := .type "itertools.combinations", data := (.fields ([Value.ref h'.objs.size, Value.int (if k > us.length then 2 else 0) 0, Value.none] ++ nums (List.range k)).toArray : Data) }, toks := tk }) := by
  intro A R s ⟨hh, hC, hQ⟩
  have hh1 : A.in1.handled = none := hh
  have hsub : isSubtype (.type "itertools.combinations") (.type ("itertools." ++ "combinations")) = pure true := by
    rw [show ("itertools." ++ "combinations" : String) = "itertools.combinations" by decide +kernel]; exact sub_cb
  have hd := noDict_cb
  have hnm : Builtin.Itertools.itTooMany (k : Int) = false := by unfold Builtin.Itertools.itTooMany; exact decide_eq_false (by omega)
  have hb : (decide ((k : Int) < -(2 ^ 63 : Int)) || decide ((k : Int) ≥ 2 ^ 63)) = false := by
    rw [decide_eq_false (by omega), decide_eq_false (by omega)]; rfl
  unfold Builtin.«itertools.combinations.__new__»
  have hC' : ∀ {E : Value → Shared → Prop} {Q : List Value → Shared → Prop}, (∀ (h' : Heap) (tk : Nat) (us : List Value), (∀ b o, s.heap.get? b = some o → h'.get? b = some o) → Vals xs us → Q us { s with heap := h', toks := tk }) → wpAny (model prog w) A.in1 (collect x) Q E s := fun {E Q} hq => hC A.in1 E Q hh1 hq
  wp_walk using hC'
  rw [if_neg (by rw [hb]; decide)]
  refine wpAny_pure ?_
  refine wpAny_bind (hC' fun h' tk us hk hv => ?_)
  have hlen := hv.length
  have hfin := hQ h' tk us hk hv
  show wpAny _ _ (if ((k : Int)) < 0 then _ else _) _ _ _
  rw [if_neg (by omega)]
  show wpAny _ _ (if Builtin.Itertools.itTooMany (k : Int) = true then _ else _) _ _ _
  rw [if_neg (by rw [hnm]; decide)]
  show wpAny _ _ (newTuple us >>= _) _ _ _
  refine wpAny_bind (wpAny_newObj_type ?_ (by show us.toArray.size ≤ sizeLine; rw [sizeLine_eq]; simp; omega))
  refine wpAny_pure ?_
  show wpAny _ _ (Builtin.Itertools.itNewRecord (.type "itertools.combinations") _ >>= _) _ _ _
  unfold Builtin.Itertools.itNewRecord
  rw [hd]
  refine wpAny_bind ?_
  rw [if_pos (by decide)]
  have ef : ([Value.ref h'.objs.size, rawInt (if (k : Int).toNat > us.length then 2 else 0), Value.none] ++ List.map (fun (i : Nat) => rawInt (i : Int)) (List.range (k : Int).toNat) : List Value) = [Value.ref h'.objs.size, Value.int (if k > us.length then 2 else 0) 0, Value.none] ++ nums (List.range k) := rfl
  rw [ef]
  refine wpAny_newObj_type ?_ ?_
  · exact wpAny_pure hfin
  · show (_ : List Value).toArray.size ≤ sizeLine + 2
    rw [sizeLine_eq]
    simp [nums]
    omega
section
variable {prog : Program} {w : World} {A : Around} {E : Value → Shared → Prop} {s : Shared}
theorem call_pm {x : Value} {xs : List V} {Q : Value → Shared → Prop} (hh : A.handled = none) (hn : xs.length ≤ 1000) (hC : Coll prog w s x xs)
    (hQ : ∀ (h' : Heap) (tk : Nat) (us : List Value), (∀ b o, s.heap.get? b = some o → h'.get? b = some o) → Vals xs us →
      Q (.ref (h'.push { cls := .type "tuple", data := .seq us.toArray }).objs.size) { s with heap := (h'.push { cls := .type "tuple", data := .seq us.toArray }).push { cls := .type "itertools.permutations", data := (.fields ([Value.ref h'.objs.size, Value.int 0 0, Value.int us.length 0, Value.none] ++ nums (List.range us.length ++ (List.range us.length).map fun i => us.length - i)).toArray : Data) }, toks := tk }) :
    wpAny (model prog w) A (call (.type "itertools.permutations") [x]) Q E s := by
  refine callType_newIn called_pm (by decide +kernel) (typeCall_pm _) (newCall_pm _) (fun obj => F.args_object_init_2 obj _) entry_pm_new (pm_new hn) ?_
  exact ⟨hh, hC, fun h' tk us hk hv => ⟨⟨_, Heap.get?_push_size _ rfl, rfl⟩, hQ h' tk us hk hv⟩⟩
theorem call_cb {x : Value} {xs : List V} {k : Nat} {tt : Tok} {Q : Value → Shared → Prop} (hh : A.handled = none) (hn : xs.length ≤ 1000) (hk0 : k ≤ 1000) (hC : Coll prog w s x xs)
    (hQ : ∀ (h' : Heap) (tk : Nat) (us : List Value), (∀ b o, s.heap.get? b = some o → h'.get? b = some o) → Vals xs us →
      Q (.ref (h'.push { cls := .type "tuple", data := .seq us.toArray }).objs.size) { s with heap := (h'.push { cls := .type "tuple", data := .seq us.toArray }).push { cls := .type "itertools.combinations", data := (.fields ([Value.ref h'.objs.size, Value.int (if k > us.length then 2 else 0) 0, Value.none] ++ nums (List.range k)).toArray : Data) }, toks := tk }) :
    wpAny (model prog w) A (call (.type "itertools.combinations") [x, .int k tt]) Q E s := by
  refine callType_newIn called_cb (by decide +kernel) (typeCall_cb _ _) (newCall_cb _ _) (fun obj => F.args_object_init_3 obj _ _) entry_cb_new (cb_new hn hk0) ?_
  exact ⟨hh, hC, fun h' tk us hk hv => ⟨⟨_, Heap.get?_push_size _ rfl, rfl⟩, hQ h' tk us hk hv⟩⟩
theorem iter_pm_ {it : Addr} {fs : List Value} {Q : Value → Shared → Prop} (hit : Rec "itertools.permutations" s.heap it fs) (h : Q (.ref it) s) : wpAny (model prog w) A (pyIter (.ref it)) Q E s := by
  have hT : s.TypeIs (.ref it) "itertools.permutations" := ⟨_, hit, rfl⟩
  refine wpAny_pyIter_slot hT iter_pm (wpAny_call_entry iter_pm hT entry_pm_iter ?_ (argsI_pm _))
  show wpAny _ _ (ret (.ref it)) _ _ s
  exact wpAny_pure ⟨_, rfl, "itertools.permutations", _, hT, next_pm.lookup, h⟩
theorem iter_cb_ {it : Addr} {fs : List Value} {Q : Value → Shared → Prop} (hit : Rec "itertools.combinations" s.heap it fs) (h : Q (.ref it) s) : wpAny (model prog w) A (pyIter (.ref it)) Q E s := by
  have hT : s.TypeIs (.ref it) "itertools.combinations" := ⟨_, hit, rfl⟩
  refine wpAny_pyIter_slot hT iter_cb (wpAny_call_entry iter_cb hT entry_cb_iter ?_ (argsI_cb _))
  show wpAny _ _ (ret (.ref it)) _ _ s
  exact wpAny_pure ⟨_, rfl, "itertools.combinations", _, hT, next_cb.lookup, h⟩
end
end ItP

set_option Elab.async false
set_option linter.all false
set_option maxRecDepth 100000
/-! ItT: permutations and combinations walked. -/
namespace ItP
open PySem PySem.Spec PyProof.Rows L2
section
variable {prog : Program} {w : World} {A : Around} {E : Value → Shared → Prop} {s : Shared}
theorem pn_item {it : Addr} {Q : Option Value → Shared → Prop} (h : ∀ E' : Value → Shared → Prop, wpAny (model prog w) A (callSpecial? (.ref it) "__next__") (fun r s' => ∃ v, r = some v ∧ Q (some v) s') E' s) : wpAny (model prog w) A (pyNext (.ref it)) Q E s := by
  unfold pyNext
  refine wpAny_bind (wpAny_attempt (wpAny_mono (h _) (fun r s' ⟨v, e, q⟩ => ?_) fun _ _ x => x))
  subst e
  exact wpAny_pure q
theorem pn_end {it : Addr} {Q : Option Value → Shared → Prop} (h : wpAny (model prog w) A (callSpecial? (.ref it) "__next__") (fun _ _ => False) (fun e s' => ∃ h', s' = { s with heap := h' } ∧ CpRep.StopE e h' ∧ Q none s') s) : wpAny (model prog w) A (pyNext (.ref it)) Q E s := by
  unfold pyNext
  refine wpAny_bind (wpAny_attempt (wpAny_mono h (fun r s' z => z.elim) fun e s' ⟨h', e1, ⟨a, o, vs, e2, ho, hc, hd, hv⟩, q⟩ => ?_))
  subst e1 e2
  refine wpAny_bind (wpAny_isInstance (T := "StopIteration") (b := true) ⟨_, ho, hc⟩ isSubtype_stop ?_)
  exact wpAny_pure q
end
theorem chain_at {α : Type} {g : α → α → Bool} {e : α → Bool} : ∀ {l : List α}, chain g e l = true → ∀ {i : Nat} {a b : α}, l[i]? = some a → l[i + 1]? = some b → g a b = true
  | [], _, i, a, b, ha, _ => by simp at ha
  | [x], _, i, a, b, _, hb => by simp at hb
  | x :: y :: r, h, 0, a, b, ha, hb => by
    have ha : x = a := by simpa using ha
    have hb : y = b := by simpa using hb
    subst ha hb
    exact (Bool.and_eq_true _ _ ▸ h).1
  | x :: y :: r, h, i + 1, a, b, ha, hb => chain_at (l := y :: r) (Bool.and_eq_true _ _ ▸ h).2 (i := i) (by simpa using ha) (by simpa using hb)
theorem chain_end {α : Type} {g : α → α → Bool} {e : α → Bool} : ∀ {l : List α}, chain g e l = true → ∀ {i : Nat} {a : α}, l[i]? = some a → l.length = i + 1 → e a = true
  | [], _, i, a, ha, _ => by simp at ha
  | [x], h, i, a, ha, hl => by
    have : i = 0 := by simp at hl; omega
    subst this
    have ha : x = a := by simpa using ha
    subst ha
    exact h
  | x :: y :: r, h, 0, a, ha, hl => by simp at hl
  | x :: y :: r, h, i + 1, a, ha, hl => chain_end (l := y :: r) (Bool.and_eq_true _ _ ▸ h).2 (i := i) (by simpa using ha) (by simpa using hl)
def rowV (xs : List V) (p : List Nat) : List V := p.map fun j => xs.getD j .non
theorem relv_get : ∀ {xs : List V} {us : List Value}, Vals xs us → ∀ j, L2.RelV (xs.getD j .non) (us.getD j .none)
  | _, _, .nil, j => by simp [L2.RelV]
  | _, _, .cons r _, 0 => r
  | _, _, .cons _ t, j + 1 => relv_get t j
theorem vals_row {xs : List V} {us : List Value} (h : Vals xs us) : ∀ p : List Nat, Vals (rowV xs p) (at_ us p)
  | [] => .nil
  | j :: p => .cons (by have := relv_get h j; simpa using this) (vals_row h p)
theorem cyc_len : ∀ l : List Nat, (cyc l).length = l.length
  | [] => rfl
  | x :: r => by simp [cyc, cyc_len r]
theorem perm_len {n : Nat} (hn : n < 6) : ∀ p ∈ permI n, p.length = n := by
  have : (List.range 6).all (fun n => (permI n).all fun p => decide (p.length = n)) = true := by kernel_rfl
  have h := List.all_eq_true.mp this n (List.mem_range.mpr hn)
  exact fun p hp => of_decide_eq_true (List.all_eq_true.mp h p hp)
theorem perm_0 {n : Nat} (hn : n < 6) : (permI n)[0]? = some (List.range n) ∧ cyc (List.range n) = (List.range n).map fun i => n - i := by
  have : (List.range 6).all (fun n => decide ((permI n)[0]? = some (List.range n) ∧ cyc (List.range n) = (List.range n).map fun i => n - i)) = true := by kernel_rfl
  exact of_decide_eq_true (List.all_eq_true.mp this n (List.mem_range.mpr hn))
/-- these rows in new tuples -/
def Itx (rows : List (List V)) : It := ⟨fun i _ => i < rows.length, fun i H v H' => ∃ T r, rows[i]? = some r ∧ v = .ref T ∧ H T = none ∧ H' = upd H T (.tup r), fun i _ => rows.length ≤ i⟩
def pmS (n : Nat) (j : Nat) : List Nat := (permI n).getD j [] ++ cyc ((permI n).getD j [])
def pmRows (xs : List V) : List (List V) := (permI xs.length).map (rowV xs)
def TnP (us : List Value) (it pool : Addr) (i : Nat) (h : Heap) : Prop := Tup h pool us ∧ pool ≠ it ∧ i ≤ (permI us.length).length ∧
  ((i = 0 ∧ Rec "itertools.permutations" h it ([.ref pool, .int 0 0, .int us.length 0, .none] ++ nums (pmS us.length 0))) ∨
   (0 < i ∧ ∃ before, Rec "itertools.permutations" h it ([.ref pool, .int 1 0, .int us.length 0, before] ++ nums (pmS us.length (i - 1)))))
theorem Inv.row {X : Cx} {pins : List (Addr × Obj)} {σ : L2.St} {H : Hp} {s : Shared} {h' : Heap} {it pool : Addr} {rv : List V} {ru : List Value} (I : Inv X pins σ H s) (hf : ∀ b ∈ [it, pool], FpOk X pins H b)
    (hr : Vals rv ru) (hz : rv.length ≤ 1000) (hT : Tup h' s.heap.objs.size ru) (k : ∀ b o, b ≠ it → s.heap.get? b = some o → h'.get? b = some o) : Inv X pins σ (upd H s.heap.objs.size (.tup rv)) { s with heap := h' } := by
  refine I.turnedNew (ch := [it, pool]) (t' := s.toks) (fun b o hb q => k b o (fun z => hb (by simp [z])) q) hf (Nat.le_refl _) (show ObjOk X.prog X.w _ _ _ (.tup rv) from ⟨?_, ru, hr, ⟨_, hT, rfl, _, rfl⟩⟩)
  rw [sizeLine_eq]
  omega
theorem turn_pm {P : Program} {w : World} {K : PySem.W.Frag} {tg : Expr} (it pool : Addr) {xs : List V} {us : List Value} (hv : Vals xs us) (hn : xs.length < 6) : Turn P w K tg (Itx (pmRows xs)) [it, pool] it (TnP us it pool) where
  mem := by simp
  obj := fun i h st b hb => by
    obtain ⟨hp, hne, hil, st⟩ := st
    have e : b = it ∨ b = pool := by simpa using hb
    rcases e with rfl | rfl
    · rcases st with ⟨_, z⟩ | ⟨_, x, z⟩ <;> exact ⟨_, z, fun v q => nomatch q⟩
    · exact ⟨_, hp, fun v q => nomatch q⟩
  keep := fun i h h' st k => by
    obtain ⟨hp, hne, hil, st⟩ := st
    refine ⟨k pool (by simp) _ hp, hne, hil, ?_⟩
    rcases st with ⟨e, z⟩ | ⟨e, x, z⟩
    · exact .inl ⟨e, k it (by simp) _ z⟩
    · exact .inr ⟨e, x, k it (by simp) _ z⟩
  item := by
    intro X hP hw hK hc i pins s σ H E I hf st hg
    subst hP hw hK
    obtain ⟨hp, hne, hil, st⟩ := st
    have hlen := hv.length
    have hg : i < (permI xs.length).length := by simpa [Itx, pmRows] using hg
    obtain ⟨f, hf1, hf2, hf3⟩ := pm_raw
    have hrow : (permI us.length)[i]? = some ((permI us.length).getD i []) := by rw [← hlen]; simp [hg]
    have hpl : ((permI us.length).getD i []).length = us.length := perm_len (hlen ▸ hn) _ (List.mem_of_getElem? hrow)
    have fin : ∀ h', Rec "itertools.permutations" h' it ([.ref pool, .int 1 0, .int us.length 0, .ref s.heap.objs.size] ++ nums (pmS us.length i)) → Tup h' s.heap.objs.size (at_ us (((permI us.length).getD i []).take us.length)) → (∀ b o, b ≠ it → s.heap.get? b = some o → h'.get? b = some o) →
        wpAny (model X.prog X.w) X.A (letOwnedTupleGo tg (.ref it) (.ref s.heap.objs.size)) (fun _ s2 => ∃ x H', Inv X pins σ H' s2 ∧ L2.RelV x (.ref s.heap.objs.size) ∧ (Itx (pmRows xs)).yld i H x H' ∧ TnP us it pool (i + 1) s2.heap ∧ ∀ b ∈ [it, pool], H' b = none) E { s with heap := h' } := by
      intro h' a1 a2 a3
      rw [List.take_of_length_le (Nat.le_of_eq hpl)] at a2
      refine go_of (s := { s with heap := h' }) a1 rfl rfl (by decide) ?_
      have hr := vals_row hv ((permI us.length).getD i [])
      refine ⟨.ref s.heap.objs.size, upd H s.heap.objs.size (.tup (rowV xs ((permI us.length).getD i []))), Inv.row I hf hr ?_ a2 a3, rfl, ⟨_, _, ?_, rfl, I.hok.fresh (Nat.le_refl _), rfl⟩, ⟨a3 pool _ hne hp, hne, by rw [← hlen]; omega, .inr ⟨Nat.succ_pos _, _, a1⟩⟩, fun b hb => ?_⟩
      · unfold rowV; rw [List.length_map, hpl]; omega
      · unfold pmRows
        rw [List.getElem?_map, hlen, hrow]
        rfl
      · have hb' : b < s.heap.objs.size := by
          have e : b = it ∨ b = pool := by simpa using hb
          rcases e with rfl | rfl
          · rcases st with ⟨_, z⟩ | ⟨_, x, z⟩ <;> exact Heap.lt_size z
          · exact Heap.lt_size hp
        rw [upd_ne (Nat.ne_of_lt hb')]
        exact (hf b hb).1
    rcases st with ⟨rfl, z⟩ | ⟨hi, before, z⟩
    · refine pn_item fun E' => pm_first z hp (by omega) fun h' a1 a2 a3 => ⟨_, rfl, ?_⟩
      have hq := hpl
      rw [show (pmS us.length 0).take us.length = ((permI us.length).getD 0 []).take us.length by unfold pmS; rw [List.take_append_of_le_length (by omega)]] at a2
      exact ⟨_, rfl, fin h' a1 a2 a3⟩
    · have hrow0 : (permI us.length)[i - 1]? = some ((permI us.length).getD (i - 1) []) := by
        have : i - 1 < (permI us.length).length := by rw [← hlen]; omega
        simp [this]
      have hpl0 : ((permI us.length).getD (i - 1) []).length = us.length := perm_len (hlen ▸ hn) _ (List.mem_of_getElem? hrow0)
      have ht := List.all_eq_true.mp hf1 us.length (List.mem_range.mpr (hlen ▸ hn))
      have hst := of_decide_eq_true (chain_at ht hrow0 (by rw [show i - 1 + 1 = i by omega]; exact hrow))
      have e1 : (pmS us.length (i - 1)).take us.length = (permI us.length).getD (i - 1) [] := by unfold pmS; rw [List.take_append_of_le_length (by omega), List.take_of_length_le (by omega)]
      have e2 : (pmS us.length (i - 1)).drop us.length = cyc ((permI us.length).getD (i - 1) []) := by unfold pmS; rw [List.drop_append_of_le_length (by omega), List.drop_of_length_le (by omega)]; rfl
      refine pn_item fun E' => hf2 z hp (by omega) ?_ ?_ fun h' a1 a2 a3 => ⟨_, rfl, _, rfl, fin h' a1 a2 a3⟩
      · rw [cyc_len]; omega
      · rw [List.size_toArray, Int.toNat_natCast, e1, e2]
        exact hst
  done := by
    intro X hP hw hK hc i pins s σ H E I hf st hg
    subst hP hw hK
    obtain ⟨hp, hne, hil, st⟩ := st
    have hlen := hv.length
    have hg : (permI xs.length).length ≤ i := by simpa [Itx, pmRows] using hg
    obtain ⟨f, hf1, hf2, hf3⟩ := pm_raw
    have h0 := (perm_0 hn).1
    have hpos : 0 < (permI xs.length).length := (List.getElem?_eq_some_iff.mp h0).1
    rw [← hlen] at hil
    rcases st with ⟨rfl, z⟩ | ⟨hi, before, z⟩
    · omega
    · have hie : i = (permI us.length).length := by rw [← hlen]; omega
      have hrow0 : (permI us.length)[i - 1]? = some ((permI us.length).getD (i - 1) []) := by
        have : i - 1 < (permI us.length).length := by omega
        simp [this]
      have hpl0 : ((permI us.length).getD (i - 1) []).length = us.length := perm_len (hlen ▸ hn) _ (List.mem_of_getElem? hrow0)
      have ht := List.all_eq_true.mp hf1 us.length (List.mem_range.mpr (hlen ▸ hn))
      have hst := of_decide_eq_true (chain_end ht hrow0 (by omega))
      have e1 : (pmS us.length (i - 1)).take us.length = (permI us.length).getD (i - 1) [] := by unfold pmS; rw [List.take_append_of_le_length (by omega), List.take_of_length_le (by omega)]
      have e2 : (pmS us.length (i - 1)).drop us.length = cyc ((permI us.length).getD (i - 1) []) := by unfold pmS; rw [List.drop_append_of_le_length (by omega), List.drop_of_length_le (by omega)]; rfl
      refine pn_end (wpAny_mono (hf3 (I.ok.hd hc) z hp ?_ (E := fun e s' => ∃ h', s' = { s with heap := h' } ∧ CpRep.StopE e h' ∧ Heap.ExtBut it s.heap h') (Q := fun _ _ => False) fun e h' a1 a2 => ⟨h', rfl, a1, a2⟩) (fun _ _ z => z) fun e s' ⟨h', e3, a1, a2⟩ => ⟨h', e3, a1, rfl, ?_⟩)
      · rw [List.size_toArray, Int.toNat_natCast, e1, e2]
        exact hst
      · subst e3
        obtain ⟨f0, f1, f2, f3, f4, f5⟩ := hf it (by simp)
        exact I.turned (t' := s.toks) (fun b o hb q => a2 b o hb q) f0 f1 f3 f4 f5
  self := fun A i s Q E st h => by
    obtain ⟨hp, hne, hil, st⟩ := st
    rcases st with ⟨e, z⟩ | ⟨e, x, z⟩
    · exact iter_pm_ z h
    · exact iter_pm_ z h
end ItP

set_option Elab.async false
set_option linter.all false
set_option maxRecDepth 100000
namespace ItP
open PySem PySem.Spec PyProof.Rows L2
theorem comb_len : ∀ (r : Nat) (l : List Nat), ∀ p ∈ combL r l, p.length = r
  | 0, l, p, h => by
    have : p = [] := by cases l <;> simpa [combL] using h
    rw [this]; rfl
  | r + 1, [], p, h => by simp [combL] at h
  | r + 1, x :: l, p, h => by
    unfold combL at h
    rcases List.mem_append.mp h with h | h
    · obtain ⟨q, hq, rfl⟩ := List.mem_map.mp h
      rw [List.length_cons, comb_len r l q hq]
    · exact comb_len (r + 1) l p h
theorem comb_nil : ∀ (r : Nat) (l : List Nat), l.length < r → combL r l = []
  | 0, l, h => by omega
  | r + 1, [], h => by simp [combL]
  | r + 1, x :: l, h => by
    have h : l.length < r := by simpa using h
    unfold combL
    rw [comb_nil r l h, comb_nil (r + 1) l (by omega)]
    rfl
theorem comb_0 {n k : Nat} (hn : n < 9) (hk : k ≤ n) : (combI n k)[0]? = some (List.range k) := by
  have : (List.range 9).all (fun n => (List.range (n + 1)).all fun k => decide ((combI n k)[0]? = some (List.range k))) = true := by kernel_rfl
  have h := List.all_eq_true.mp this n (List.mem_range.mpr hn)
  exact of_decide_eq_true (List.all_eq_true.mp h k (List.mem_range.mpr (by omega)))
def cbRows (xs : List V) (k : Nat) : List (List V) := (combI xs.length k).map (rowV xs)
def TnC (us : List Value) (k : Nat) (it pool : Addr) (i : Nat) (h : Heap) : Prop := Tup h pool us ∧ pool ≠ it ∧ i ≤ (combI us.length k).length ∧
  ((us.length < k ∧ Rec "itertools.combinations" h it ([.ref pool, .int 2 0, .none] ++ nums (List.range k))) ∨
   (k ≤ us.length ∧ i = 0 ∧ Rec "itertools.combinations" h it ([.ref pool, .int 0 0, .none] ++ nums (List.range k))) ∨
   (k ≤ us.length ∧ 0 < i ∧ ∃ before, Rec "itertools.combinations" h it ([.ref pool, .int 1 0, before] ++ nums ((combI us.length k).getD (i - 1) []))))
theorem turn_cb {P : Program} {w : World} {K : PySem.W.Frag} {tg : Expr} (it pool : Addr) {xs : List V} {us : List Value} {k : Nat} (hv : Vals xs us) (hn : xs.length < 9) : Turn P w K tg (Itx (cbRows xs k)) [it, pool] it (TnC us k it pool) where
  mem := by simp
  obj := fun i h st b hb => by
    obtain ⟨hp, hne, hil, st⟩ := st
    have e : b = it ∨ b = pool := by simpa using hb
    rcases e with rfl | rfl
    · rcases st with ⟨_, z⟩ | ⟨_, _, z⟩ | ⟨_, _, x, z⟩ <;> exact ⟨_, z, fun v q => nomatch q⟩
    · exact ⟨_, hp, fun v q => nomatch q⟩
  keep := fun i h h' st k => by
    obtain ⟨hp, hne, hil, st⟩ := st
    refine ⟨k pool (by simp) _ hp, hne, hil, ?_⟩
    rcases st with ⟨e, z⟩ | ⟨e, e2, z⟩ | ⟨e, e2, x, z⟩
    · exact .inl ⟨e, k it (by simp) _ z⟩
    · exact .inr (.inl ⟨e, e2, k it (by simp) _ z⟩)
    · exact .inr (.inr ⟨e, e2, x, k it (by simp) _ z⟩)
  item := by
    intro X hP hw hK hc i pins s σ H E I hf st hg
    subst hP hw hK
    obtain ⟨hp, hne, hil, st⟩ := st
    have hlen := hv.length
    have hg : i < (combI xs.length k).length := by simpa [Itx, cbRows] using hg
    have hk : k ≤ us.length := by
      apply Classical.byContradiction
      intro z
      have : combI xs.length k = [] := comb_nil _ _ (by rw [List.length_range]; omega)
      rw [this] at hg
      exact absurd hg (Nat.not_lt_zero _)
    obtain ⟨f, hf1, hf2, hf3⟩ := cb_raw
    have hrow : (combI us.length k)[i]? = some ((combI us.length k).getD i []) := by rw [← hlen]; simp [hg]
    have hpl : ((combI us.length k).getD i []).length = k := comb_len _ _ _ (List.mem_of_getElem? hrow)
    have fin : ∀ h', Rec "itertools.combinations" h' it ([.ref pool, .int 1 0, .ref s.heap.objs.size] ++ nums ((combI us.length k).getD i [])) → Tup h' s.heap.objs.size (at_ us ((combI us.length k).getD i [])) → (∀ b o, b ≠ it → s.heap.get? b = some o → h'.get? b = some o) →
        wpAny (model X.prog X.w) X.A (letOwnedTupleGo tg (.ref it) (.ref s.heap.objs.size)) (fun _ s2 => ∃ x H', Inv X pins σ H' s2 ∧ L2.RelV x (.ref s.heap.objs.size) ∧ (Itx (cbRows xs k)).yld i H x H' ∧ TnC us k it pool (i + 1) s2.heap ∧ ∀ b ∈ [it, pool], H' b = none) E { s with heap := h' } := by
      intro h' a1 a2 a3
      refine go_of (s := { s with heap := h' }) a1 rfl rfl (by decide) ?_
      have hr := vals_row hv ((combI us.length k).getD i [])
      refine ⟨.ref s.heap.objs.size, upd H s.heap.objs.size (.tup (rowV xs ((combI us.length k).getD i []))), Inv.row I hf hr ?_ a2 a3, rfl, ⟨_, _, ?_, rfl, I.hok.fresh (Nat.le_refl _), rfl⟩, ⟨a3 pool _ hne hp, hne, by rw [← hlen]; omega, .inr (.inr ⟨hk, Nat.succ_pos _, _, a1⟩)⟩, fun b hb => ?_⟩
      · unfold rowV; rw [List.length_map, hpl]; omega
      · unfold cbRows
        rw [List.getElem?_map, hlen, hrow]
        rfl
      · have hb' : b < s.heap.objs.size := by
          have e : b = it ∨ b = pool := by simpa using hb
          rcases e with rfl | rfl
          · rcases st with ⟨_, z⟩ | ⟨_, _, z⟩ | ⟨_, _, x, z⟩ <;> exact Heap.lt_size z
          · exact Heap.lt_size hp
        rw [upd_ne (Nat.ne_of_lt hb')]
        exact (hf b hb).1
    rcases st with ⟨hlt, z⟩ | ⟨_, rfl, z⟩ | ⟨_, hi, before, z⟩
    · omega
    · have h0 : (combI us.length k).getD 0 [] = List.range k := by rw [List.getD_eq_getElem?_getD, comb_0 (hlen ▸ hn) hk]; rfl
      rw [h0] at fin
      exact pn_item fun E' => cb_first z hp hne (by rw [List.length_range]; omega) fun h' a1 a2 a3 => ⟨_, rfl, _, rfl, fin h' a1 a2 a3⟩
    · have hrow0 : (combI us.length k)[i - 1]? = some ((combI us.length k).getD (i - 1) []) := by
        have : i - 1 < (combI us.length k).length := by rw [← hlen]; omega
        simp [this]
      have ht := List.all_eq_true.mp (List.all_eq_true.mp hf1 us.length (List.mem_range.mpr (hlen ▸ hn))) k (List.mem_range.mpr (by omega))
      have hst := of_decide_eq_true (chain_at ht hrow0 (by rw [show i - 1 + 1 = i by omega]; exact hrow))
      refine pn_item fun E' => hf2 z hp hne ?_ ?_ fun h' a1 a2 a3 => ⟨_, rfl, _, rfl, fin h' a1 a2 a3⟩
      · omega
      · rw [List.size_toArray]
        exact hst
  done := by
    intro X hP hw hK hc i pins s σ H E I hf st hg
    subst hP hw hK
    obtain ⟨hp, hne, hil, st⟩ := st
    have hlen := hv.length
    have hg : (combI xs.length k).length ≤ i := by simpa [Itx, cbRows] using hg
    obtain ⟨f, hf1, hf2, hf3⟩ := cb_raw
    obtain ⟨f0, f1, f2, f3, f4, f5⟩ := hf it (by simp)
    have fin : ∀ h', Heap.ExtBut it s.heap h' → Inv X pins σ H { s with heap := h' } := fun h' a2 => I.turned (t' := s.toks) (fun b o hb q => a2 b o hb q) f0 f1 f3 f4 f5
    rw [← hlen] at hil
    rcases st with ⟨hlt, z⟩ | ⟨hk, rfl, z⟩ | ⟨hk, hi, before, z⟩
    · refine pn_end (wpAny_mono (cb_over (I.ok.hd hc) z (E := fun e s' => ∃ h', s' = { s with heap := h' } ∧ CpRep.StopE e h' ∧ Heap.ExtBut it s.heap h') (Q := fun _ _ => False) fun e h' a1 a2 => ⟨h', rfl, a1, a2⟩) (fun _ _ z => z) fun e s' ⟨h', e3, a1, a2⟩ => ⟨h', e3, a1, rfl, ?_⟩)
      subst e3
      exact fin h' a2
    · have h0 := comb_0 (n := us.length) (hlen ▸ hn) hk
      have hpos : 0 < (combI us.length k).length := (List.getElem?_eq_some_iff.mp h0).1
      rw [← hlen] at hpos
      omega
    · have hie : i = (combI us.length k).length := by rw [← hlen]; omega
      have hrow0 : (combI us.length k)[i - 1]? = some ((combI us.length k).getD (i - 1) []) := by
        have : i - 1 < (combI us.length k).length := by omega
        simp [this]
      have ht := List.all_eq_true.mp (List.all_eq_true.mp hf1 us.length (List.mem_range.mpr (hlen ▸ hn))) k (List.mem_range.mpr (by omega))
      have hst := of_decide_eq_true (chain_end ht hrow0 (by omega))
      refine pn_end (wpAny_mono (hf3 (I.ok.hd hc) z hp ?_ (E := fun e s' => ∃ h', s' = { s with heap := h' } ∧ CpRep.StopE e h' ∧ Heap.ExtBut it s.heap h') (Q := fun _ _ => False) fun e h' a1 a2 => ⟨h', rfl, a1, a2⟩) (fun _ _ z => z) fun e s' ⟨h', e3, a1, a2⟩ => ⟨h', e3, a1, rfl, ?_⟩)
      · rw [List.size_toArray]
        exact hst
      · subst e3
        exact fin h' a2
  self := fun A i s Q E st h => by
    obtain ⟨hp, hne, hil, st⟩ := st
    rcases st with ⟨e, z⟩ | ⟨e, _, z⟩ | ⟨e, _, x, z⟩
    · exact iter_cb_ z h
    · exact iter_cb_ z h
    · exact iter_cb_ z h
end ItP

set_option Elab.async false
set_option linter.all false
set_option maxRecDepth 100000
namespace ItP
open PySem PySem.Spec PyProof.Rows L2
def intsV (n : Nat) : List V := (List.range n).map fun i => V.int (i : Nat)
def tRngE (ta : TE) : TE := fun σ H Q => ta σ H fun x H1 => ∃ n, x = .int n ∧ ∀ p, H1 p = none → Q (.ref p) (upd H1 p (.rng 0 n))
theorem size_push (h : Heap) (o : Obj) : (h.push o).objs.size = h.objs.size + 1 := by cases h; simp [Heap.push]
section
variable {X : Cx} {a b : Expr} {ta tb : TE}
theorem pe_rng1 {p pos : Pos} (hg : Gl X "range") (hm : X.mg "range" = none) (ha : PE X a ta) (na : starEach [a] X.env = (false, eval a X.env) :: starEach [] X.env := by rfl) : PE X (.Call (.Name "range" p) [a] [] pos) (tRngE ta) := by
  refine ⟨fun pins s σ H Q I h => ?_⟩
  refine Call_ (ld_blt I hg hm boot_range (PyProof.Rows.callWith_type1 (one_arg ha I h (fun v s2 x H2 I2 r q => ?_) na) na))
  obtain ⟨n, rfl, q⟩ := q
  obtain ⟨t, rfl⟩ := r
  refine call_range_1 ⟨.ref s2.heap.objs.size, upd H2 s2.heap.objs.size (.rng 0 n), I2.laid (t' := s2.toks + 1 + 1) (fun b o e => Heap.get?_push_of_some _ e) (Nat.le_refl _) ?_, rfl, q _ (I2.hok.fresh (Nat.le_refl _))⟩
  exact ⟨_, _, _, Heap.get?_push_size _ rfl⟩
theorem coll_rng {pins : List (Addr × Obj)} {σ : L2.St} {H : Hp} {s : Shared} {r : Addr} {n : Nat} (I : Inv X pins σ H s) (h : H r = some (.rng 0 n)) (hn : n ≤ 1000) : Coll X.prog X.w s (.ref r) (intsV n) := by
  obtain ⟨t, u, v, e⟩ := I.hok r _ h
  exact coll_range e hn
def iPmR (ta : TE) : TI := fun σ H R => tRngE ta σ H fun y H1 => ∃ (r : Addr) (n : Nat), y = .ref r ∧ n < 6 ∧ H1 r = some (.rng 0 n) ∧ R (Itx (pmRows (intsV n))) H1
def iCbR (ta tb : TE) : TI := fun σ H R => tRngE ta σ H fun y H1 => tb σ H1 fun z H2 => ∃ (r : Addr) (n k : Nat), y = .ref r ∧ z = .int k ∧ n < 9 ∧ k ≤ 1000 ∧ H2 r = some (.rng 0 n) ∧ R (Itx (cbRows (intsV n) k)) H2
def iCbV (K : PySem.W.Frag) (ta tb : TE) : TI := fun σ H R => ta σ H fun x H1 => ∃ c, x = .ref c ∧ tb σ H1 fun y H2 => ∃ (k : Nat) (xs : List V), y = .int k ∧ k ≤ 1000 ∧ xs.length < 9 ∧ (SqL K H2 c xs ∨ SqT K H2 c xs) ∧ R (Itx (cbRows xs k)) H2
variable {tg : Expr} {x : Str} {p p2 pos pos2 : Pos}
theorem got_pm {pins : List (Addr × Obj)} {σ : L2.St} {H : Hp} {s s' : Shared} {R : It → Hp → Prop} {xs : List V} {us : List Value} {h' : Heap} {tk : Nat} (I : Inv X pins σ H s) (hk : ∀ b o, s.heap.get? b = some o → h'.get? b = some o) (hv : Vals xs us) (hn : xs.length < 6) (q : R (Itx (pmRows xs)) H)
    (e : s' = { s with heap := (h'.push { cls := .type "tuple", data := .seq us.toArray }).push { cls := .type "itertools.permutations", data := (.fields ([Value.ref h'.objs.size, Value.int 0 0, Value.int us.length 0, Value.none] ++ nums (List.range us.length ++ (List.range us.length).map fun i => us.length - i)).toArray : Data) }, toks := tk }) :
    wpAny (model X.prog X.w) X.A (pyIter (.ref (h'.push { cls := .type "tuple", data := .seq us.toArray }).objs.size)) (PIE X pins σ tg R) X.xe s' := by
  subst e
  have hlen := hv.length
  have hit : Rec "itertools.permutations" ((h'.push { cls := .type "tuple", data := .seq us.toArray }).push { cls := .type "itertools.permutations", data := (.fields ([Value.ref h'.objs.size, Value.int 0 0, Value.int us.length 0, Value.none] ++ nums (List.range us.length ++ (List.range us.length).map fun i => us.length - i)).toArray : Data) }) (h'.push { cls := .type "tuple", data := .seq us.toArray }).objs.size ([Value.ref h'.objs.size, Value.int 0 0, Value.int us.length 0, Value.none] ++ nums (pmS us.length 0)) := by
    have e2 : pmS us.length 0 = List.range us.length ++ (List.range us.length).map fun i => us.length - i := by
      obtain ⟨p1, p2⟩ := perm_0 (n := us.length) (by omega)
      unfold pmS
      rw [List.getD_eq_getElem?_getD, p1]
      show List.range us.length ++ cyc (List.range us.length) = _
      rw [p2]
    rw [e2]
    exact Heap.get?_push_size _ rfl
  refine iter_pm_ hit ?_
  have hp : Tup ((h'.push { cls := .type "tuple", data := .seq us.toArray }).push { cls := .type "itertools.permutations", data := (.fields ([Value.ref h'.objs.size, Value.int 0 0, Value.int us.length 0, Value.none] ++ nums (List.range us.length ++ (List.range us.length).map fun i => us.length - i)).toArray : Data) }) h'.objs.size us := Heap.get?_push_of_some _ (Heap.get?_push_size _ rfl)
  refine ⟨_, [(h'.push { cls := .type "tuple", data := .seq us.toArray }).objs.size, h'.objs.size], _, _, H, rfl, I.kept (t' := tk) fun b o e => Heap.get?_push_of_some _ (Heap.get?_push_of_some _ (hk b o e)), turn_pm _ h'.objs.size hv hn, ⟨hp, Nat.ne_of_lt (by rw [size_push]; exact Nat.lt_succ_self _), Nat.zero_le _, .inl ⟨rfl, hit⟩⟩, fun b hb => ?_, q⟩
  have I' : Inv X pins σ H { s with heap := h' } := I.kept (t' := s.toks) hk
  have hb' : h'.objs.size ≤ b := by
    have e : b = (h'.push { cls := .type "tuple", data := .seq us.toArray }).objs.size ∨ b = h'.objs.size := by simpa using hb
    rcases e with rfl | rfl
    · rw [size_push]; exact Nat.le_succ _
    · exact Nat.le_refl _
  exact I'.fpOk hb' (I'.hok.fresh hb')
theorem pi_pmR (hc : X.calm = true) (hg : Gl X x) (hm : X.mg x = some (.type "itertools.permutations")) (hd : (x == ("__debug__" : Str)) = false) (hg2 : Gl X "range") (hm2 : X.mg "range" = none) (ha : PE X a ta)
    (na : starEach [a] X.env = (false, eval a X.env) :: starEach [] X.env := by rfl) : PI X tg (.Call (.Name x p) [.Call (.Name "range" p2) [a] [] pos2] [] pos) (iPmR ta) := by
  refine ⟨fun pins s σ H R I h => ?_⟩
  refine Call_ (ld_glob I hg hm (PyProof.Rows.callWith_type1 (one_arg (pe_rng1 hg2 hm2 ha na) I h (fun v s2 y H2 I2 r q => ?_) rfl) rfl) hd)
  obtain ⟨r0, n, rfl, hn, hr, q⟩ := q
  obtain rfl : v = Value.ref r0 := r
  have hlen : (intsV n).length = n := by unfold intsV; simp
  refine call_pm (I2.ok.hd hc) (by omega) (coll_rng I2 hr (by omega)) fun h' tk us hk hv => ?_
  exact got_pm I2 hk hv (by omega) q rfl
theorem got_cb {pins : List (Addr × Obj)} {σ : L2.St} {H : Hp} {s s' : Shared} {R : It → Hp → Prop} {xs : List V} {us : List Value} {h' : Heap} {tk k : Nat} (I : Inv X pins σ H s) (hk : ∀ b o, s.heap.get? b = some o → h'.get? b = some o) (hv : Vals xs us) (hn : xs.length < 9) (q : R (Itx (cbRows xs k)) H)
    (e : s' = { s with heap := (h'.push { cls := .type "tuple", data := .seq us.toArray }).push { cls := .type "itertools.combinations", data := (.fields ([Value.ref h'.objs.size, Value.int (if k > us.length then 2 else 0) 0, Value.none] ++ nums (List.range k)).toArray : Data) }, toks := tk }) :
    wpAny (model X.prog X.w) X.A (pyIter (.ref (h'.push { cls := .type "tuple", data := .seq us.toArray }).objs.size)) (PIE X pins σ tg R) X.xe s' := by
  subst e
  have hlen := hv.length
  have hit : Rec "itertools.combinations" ((h'.push { cls := .type "tuple", data := .seq us.toArray }).push { cls := .type "itertools.combinations", data := (.fields ([Value.ref h'.objs.size, Value.int (if k > us.length then 2 else 0) 0, Value.none] ++ nums (List.range k)).toArray : Data) }) (h'.push { cls := .type "tuple", data := .seq us.toArray }).objs.size ([Value.ref h'.objs.size, Value.int (if k > us.length then 2 else 0) 0, Value.none] ++ nums (List.range k)) := Heap.get?_push_size _ rfl
  refine iter_cb_ hit ?_
  have hp : Tup ((h'.push { cls := .type "tuple", data := .seq us.toArray }).push { cls := .type "itertools.combinations", data := (.fields ([Value.ref h'.objs.size, Value.int (if k > us.length then 2 else 0) 0, Value.none] ++ nums (List.range k)).toArray : Data) }) h'.objs.size us := Heap.get?_push_of_some _ (Heap.get?_push_size _ rfl)
  refine ⟨_, [(h'.push { cls := .type "tuple", data := .seq us.toArray }).objs.size, h'.objs.size], _, _, H, rfl, I.kept (t' := tk) fun b o e => Heap.get?_push_of_some _ (Heap.get?_push_of_some _ (hk b o e)), turn_cb (k := k) _ h'.objs.size hv hn, ⟨hp, Nat.ne_of_lt (by rw [size_push]; exact Nat.lt_succ_self _), Nat.zero_le _, ?_⟩, fun b hb => ?_, q⟩
  · by_cases hkl : k > us.length
    · rw [if_pos hkl] at hit
      rw [if_pos hkl]
      exact .inl ⟨hkl, hit⟩
    · rw [if_neg hkl] at hit
      rw [if_neg hkl]
      exact .inr (.inl ⟨by omega, rfl, hit⟩)
  have I' : Inv X pins σ H { s with heap := h' } := I.kept (t' := s.toks) hk
  have hb' : h'.objs.size ≤ b := by
    have e : b = (h'.push { cls := .type "tuple", data := .seq us.toArray }).objs.size ∨ b = h'.objs.size := by simpa using hb
    rcases e with rfl | rfl
    · rw [size_push]; exact Nat.le_succ _
    · exact Nat.le_refl _
  exact I'.fpOk hb' (I'.hok.fresh hb')
theorem pi_cbR (hc : X.calm = true) (hg : Gl X x) (hm : X.mg x = some (.type "itertools.combinations")) (hd : (x == ("__debug__" : Str)) = false) (hg2 : Gl X "range") (hm2 : X.mg "range" = none) (ha : PE X a ta) (hb : PE X b tb)
    (na : starEach [a] X.env = (false, eval a X.env) :: starEach [] X.env := by rfl) (nb : starEach [b] X.env = (false, eval b X.env) :: starEach [] X.env := by rfl) (hp : (backTo pos (starEach [b] X.env)).any (·.1) = false := by rfl) :
    PI X tg (.Call (.Name x p) [.Call (.Name "range" p2) [a] [] pos2, b] [] pos) (iCbR ta tb) := by
  refine ⟨fun pins s σ H R I h => ?_⟩
  refine Call_ (ld_glob I hg hm (PyProof.Rows.callWith_type1 (args_cons (thn ((pe_rng1 hg2 hm2 ha na).run pins s σ H _ I h) fun v s1 ⟨y, H1, I1, r1, q1⟩ => one_arg hb I1 q1 (fun u s2 z H2 I2 r2 q => ?_) nb) (by rfl)) (by rfl) hp) hd)
  obtain ⟨r0, n, k, rfl, rfl, hn, hk0, hr, q⟩ := q
  obtain rfl : v = Value.ref r0 := r1
  obtain ⟨t, rfl⟩ := r2
  have hlen : (intsV n).length = n := by unfold intsV; simp
  refine call_cb (I2.ok.hd hc) (by omega) hk0 (coll_rng I2 hr (by omega)) fun h' tk us hk hv => ?_
  exact got_cb I2 hk hv (by omega) q rfl
theorem pi_cbV (hc : X.calm = true) (hg : Gl X x) (hm : X.mg x = some (.type "itertools.combinations")) (hd : (x == ("__debug__" : Str)) = false) (ha : PE X a ta) (hb : PE X b tb)
    (na : starEach [a, b] X.env = (false, eval a X.env) :: starEach [b] X.env := by rfl) (nb : starEach [b] X.env = (false, eval b X.env) :: starEach [] X.env := by rfl) (hp : (backTo pos (starEach [b] X.env)).any (·.1) = false := by rfl) :
    PI X tg (.Call (.Name x p) [a, b] [] pos) (iCbV X.K ta tb) := by
  refine ⟨fun pins s σ H R I h => ?_⟩
  refine Call_ (ld_glob I hg hm (PyProof.Rows.callWith_type1 (args_cons (thn (ha.run pins s σ H _ I h) fun v s1 ⟨y, H1, I1, r1, c, ey, q1⟩ => one_arg hb I1 q1 (fun u s2 z H2 I2 r2 q => ?_) nb) na) na hp) hd)
  subst ey
  obtain ⟨k, xs, rfl, hk0, hn, hs, q⟩ := q
  obtain rfl : v = Value.ref c := r1
  obtain ⟨t, rfl⟩ := r2
  have hC : Coll X.prog X.w s2 (.ref c) xs := by
    rcases hs with hs | hs
    · exact coll_list I2 hs
    · exact coll_tup I2 hs
  refine call_cb (I2.ok.hd hc) (by omega) hk0 hC fun h' tk us hk hv => ?_
  exact got_cb I2 hk hv (by omega) q rfl
end
end ItP

set_option Elab.async false
set_option linter.all false
set_option maxRecDepth 100000
/-! ItZ: zip of a tuple and a text. -/
namespace ItP
open PySem PySem.Spec PyProof.Rows L2 RZ
/-- the tuple at a and the signs of x, in new pairs -/
def ItzS (K : PySem.W.Frag) (a : Addr) (x : Str) : It :=
  ⟨fun i H => ∃ (xs : List V) (u : V), SqT K H a xs ∧ xs[i]? = some u ∧ i < x.cps.size,
    fun i H v H' => ∃ T u c, v = .ref T ∧ H T = none ∧ H' = upd H T (.tup [u, .str ⟨#[c]⟩]) ∧ (∀ xs, SqT K H a xs → xs[i]? = some u) ∧ x.cps[i]? = some c,
    fun i H => ∃ xs : List V, SqT K H a xs ∧ i ≤ xs.length ∧ i ≤ x.cps.size ∧ (i = xs.length ∨ i = x.cps.size)⟩
structure Zs (z TI TO i1 i2 a : Addr) : Prop where
  TIz : TI ≠ z
  TOz : TO ≠ z
  TITO : TI ≠ TO
  TIi1 : TI ≠ i1
  TIi2 : TI ≠ i2
  zi1 : z ≠ i1
  zi2 : z ≠ i2
  TOi1 : TO ≠ i1
  TOi2 : TO ≠ i2
  i12 : i1 ≠ i2
  az : a ≠ z
  aTO : a ≠ TO
  ai1 : a ≠ i1
  ai2 : a ≠ i2
theorem Zs.sep {z TI TO i1 i2 a : Addr} (D : Zs z TI TO i1 i2 a) : ZipSep2 z TI TO i1 i2 [i1, a] [i2] where
  TIz := D.TIz
  TOz := D.TOz
  TITO := D.TITO
  TIi1 := D.TIi1
  mem1 := by simp
  zf1 := by simp [D.zi1, Ne.symm D.az]
  Tf1 := by simp [D.TOi1, Ne.symm D.aTO]
  TIi2 := D.TIi2
  mem2 := by simp
  zf2 := by simp [D.zi2]
  Tf2 := by simp [D.TOi2]
  sep1_2 := by simp [D.i12]
  sep2_1 := by simp [Ne.symm D.i12, Ne.symm D.ai2]
theorem turn_zipS {P : Program} {w : World} {K : PySem.W.Frag} {elts : List Expr} {kk : Nat} {tpos : Pos} {a z TI TO i1 i2 : Addr} {x : Str} {t : Tok} (D : Zs z TI TO i1 i2 a) :
    Turn P w K (.Tuple elts kk tpos) (ItzS K a x) [z, TI, TO, i1, i2] z (fun i h => IsZip h z TI TO .none ∧ IsTupOf2 h TI (.ref i1) (.ref i2) ∧ (∃ u v, IsTupOf2 h TO u v) ∧ h.IsTupleIter i1 a i ∧ h.IsStrIter i2 (strIterType x) x t i) where
  mem := by simp
  obj := fun i h st c hc => by
    obtain ⟨hz, hTI, ⟨x, y, hTO⟩, ⟨o1, e1, _, d1⟩, h2⟩ := st
    have e' : c = z ∨ c = TI ∨ c = TO ∨ c = i1 ∨ c = i2 := by simpa using hc
    rcases e' with q | q | q | q | q
    · rw [q]; exact ⟨_, hz, fun v q => nomatch q⟩
    · rw [q]; exact ⟨_, hTI, fun v q => nomatch q⟩
    · rw [q]; exact ⟨_, hTO, fun v q => nomatch q⟩
    · rw [q]; exact ⟨o1, e1, fun v q => by rw [d1] at q; cases q⟩
    · rw [q]
      obtain ⟨o2, e2, _, d2⟩ := h2
      exact ⟨o2, e2, fun v q => by rw [d2] at q; cases q⟩
  keep := fun i h h' st k => by
    obtain ⟨hz, hTI, ⟨x, y, hTO⟩, h1, o2, e2, c2, d2⟩ := st
    exact ⟨k z (by simp) _ hz, k TI (by simp) _ hTI, ⟨x, y, k TO (by simp) _ hTO⟩, h1.at fun o q => k i1 (by simp) o q, o2, k i2 (by simp) _ e2, c2, d2⟩
  item := by
    intro X hP hw hK hc i pins s σ H E I hf st hg
    subst hP hw hK
    obtain ⟨hz, hTI, ⟨x0, y0, hTO⟩, h1, h2⟩ := st
    obtain ⟨xs, u0, hqx, hx, hi2⟩ := hg
    obtain ⟨its, rv, p, _⟩ := I.tuple hqx
    have hh1 : X.A.in1.handled = none := I.ok.hd hc
    have D1 := Draws.tuple (prog := X.prog) (w := X.w) hh1 i1 a D.ai1 its.toArray
    have D2 := Draws.text (prog := X.prog) (w := X.w) hh1 i2 x t
    have hzl : z < s.heap.objs.size := Heap.lt_size hz
    have hl := rv.length
    have hi1 : i < its.toArray.size := by
      have := (List.getElem?_eq_some_iff.mp hx).1
      simp; omega
    refine wpAny_pyNext_zipD2_item D.sep D1 D2 hz hTI hTO ⟨h1, show s.heap.IsTuple a its.toArray from p⟩ h2 hi1 hi2 fun x1 x2 h' tk hx1 hx2 z' TO' h1' h2' hT hsz hk => ?_
    obtain ⟨c, tc, hc1, rfl⟩ := hx2
    obtain ⟨u, hu, ru⟩ := rv.get hx
    have : x1 = u := by
      have := hx1.symm.trans (show its.toArray[i]? = some u by simpa using hu)
      exact Option.some.inj this
    subst this
    refine ⟨_, rfl, wpAny_letOwnedTupleGo_zip (s := { s with heap := h', toks := tk }) z' fun h'' z'' sb => ?_⟩
    have hT2 : h''.get? s.heap.objs.size = some { cls := .type "tuple", data := .seq #[x1, .str ⟨#[c]⟩ tc] } := (sb.2 _ (Nat.ne_of_gt hzl)).trans hT
    have new : ObjOk X.prog X.w (upd H s.heap.objs.size (.tup [u0, .str ⟨#[c]⟩])) h'' s.heap.objs.size (.tup [u0, .str ⟨#[c]⟩]) :=
      ⟨by show 2 ≤ sizeLine; decide, [x1, .str ⟨#[c]⟩ tc], .cons ru (.cons ⟨tc, rfl⟩ .nil), ⟨_, hT2, rfl, _, rfl⟩⟩
    have I1 : Inv X pins σ (upd H s.heap.objs.size (.tup [u0, .str ⟨#[c]⟩])) { s with heap := h'', toks := tk } :=
      I.turnedNew (t' := tk) (ch := [z, TI, TO, i1, i2]) (fun c o hb q => (sb.2 c (fun q' => hb (by simp [q']))).trans (hk c o (fun q' => hb (by simp [q'])) (fun q' => hb (by simp [q'])) (fun q' => hb (by simp [q'])) (fun q' => hb (by simp [q'])) q)) hf (Nat.le_refl _) new
    refine ⟨.ref s.heap.objs.size, _, I1, rfl, ⟨_, u0, c, rfl, I.hok.fresh (Nat.le_refl _), rfl, fun l hl => by rw [I.tuple_inj hl hqx]; exact hx, hc1⟩, ⟨z'', ?_, ⟨x1, .str ⟨#[c]⟩ tc, ?_⟩, ?_, ?_⟩, fun c hcm => ?_⟩
    · exact (sb.2 _ D.TIz).trans (hk _ _ D.TIz D.TITO D.TIi1 D.TIi2 hTI)
    · exact (sb.2 _ D.TOz).trans TO'
    · exact h1'.1.at fun o q => (sb.2 _ (Ne.symm D.zi1)).trans q
    · obtain ⟨o2, e2, c2, d2⟩ := h2'
      exact ⟨o2, (sb.2 _ (Ne.symm D.zi2)).trans e2, c2, d2⟩
    · have hlt : c < s.heap.objs.size := by
        have e' : c = z ∨ c = TI ∨ c = TO ∨ c = i1 ∨ c = i2 := by simpa using hcm
        rcases e' with q | q | q | q | q
        · rw [q]; exact hzl
        · rw [q]; exact Heap.lt_size hTI
        · rw [q]; exact Heap.lt_size hTO
        · rw [q]; obtain ⟨_, e1, _⟩ := h1; exact Heap.lt_size e1
        · rw [q]; obtain ⟨_, e2, _⟩ := h2; exact Heap.lt_size e2
      rw [upd_ne (Nat.ne_of_lt hlt)]
      exact (hf c hcm).1
  done := by
    intro X hP hw hK hc i pins s σ H E I hf st hg
    subst hP hw hK
    obtain ⟨hz, hTI, ⟨x0, y0, hTO⟩, h1, h2⟩ := st
    obtain ⟨xs, hqx, hi1, hi2, hend⟩ := hg
    obtain ⟨its, rv, p, _⟩ := I.tuple hqx
    have hh1 : X.A.in1.handled = none := I.ok.hd hc
    have D1 := Draws.tuple (prog := X.prog) (w := X.w) hh1 i1 a D.ai1 its.toArray
    have D2 := Draws.text (prog := X.prog) (w := X.w) hh1 i2 x t
    have hl := rv.length
    refine wpAny_pyNext_zipD2_end D.sep D1 D2 hz hTI hTO ⟨h1, show s.heap.IsTuple a its.toArray from p⟩ h2 (by simp; omega) hi2 (by simp; omega) fun h' tk hk => ⟨rfl, I.turnedL (t' := tk) (ch := [z, TI, TO, i1, i2]) (fun c o hb q =>
      hk c o (fun q' => hb (by simp [q'])) (fun q' => hb (by simp [q'])) (fun q' => hb (by simp [q'])) (fun q' => hb (by simp [q'])) q) hf⟩
  self := fun A i s Q E st h => wpAny_pyIter_zip st.1 h
def iZipS (K : PySem.W.Frag) (ta : TA) : TI := fun σ H R => ta σ H fun vs H1 => ∃ a x xs, vs = [.ref a, .str x] ∧ SqT K H1 a xs ∧ R (ItzS K a x) H1
theorem pi_zipS {X : Cx} {e e2 : Expr} {ta : TA} {p pos tpos : Pos} {elts : List Expr} {kk : Nat} (hg : Gl X "zip") (hm : X.mg "zip" = none) (ha : PA X [e, e2] ta)
    (hs : starEach [e, e2] X.env = (false, eval e X.env) :: starEach [e2] X.env := by rfl) (hpl : (backTo pos (starEach [e2] X.env)).any (·.1) = false := by rfl) :
    PI X (.Tuple elts kk tpos) (.Call (.Name "zip" p) [e, e2] [] pos) (iZipS X.K ta) := by
  refine ⟨fun pins s σ H R I h => ?_⟩
  refine Call_ (ld_blt I hg hm PyProof.Rows.boot_zip (PyProof.Rows.callWith_type1 (thn (ha.run pos pins s σ H _ I h) fun us s1 ⟨vs, H1, I1, r1, q1⟩ => ?_) hs hpl))
  obtain ⟨a, x, xs, ex, hqx, q⟩ := q1
  subst ex
  cases r1 with
  | cons r rr =>
    cases rr with
    | cons r' rr =>
      cases rr
      cases r
      obtain ⟨t, rfl⟩ := r'
      obtain ⟨its, rv, p1, _⟩ := I1.tuple hqx
      obtain ⟨o1, ho1, _⟩ := id p1
      have hal : a < s1.heap.objs.size := Heap.lt_size ho1
      refine zip_begins2 (begins_tuple a its.toArray) (begins_text x t) (show s1.heap.IsTuple a its.toArray from p1) trivial fun h' hz hTI hTO h1 h2 hsz hk => wpAny_pyIter_zip hz ?_
      have I2 : Inv X pins σ H1 { s1 with heap := h' } := I1.kept (t' := s1.toks) hk
      have D : Zs (s1.heap.objs.size + 4) (s1.heap.objs.size + 2) (s1.heap.objs.size + 3) s1.heap.objs.size (s1.heap.objs.size + 1) a := by
        have l0 : ∀ k : Nat, a ≠ s1.heap.objs.size + k := fun k => Nat.ne_of_lt (Nat.lt_of_lt_of_le hal (Nat.le_add_right _ _))
        clear hal
        generalize s1.heap.objs.size = m at l0
        constructor <;> first | exact l0 _ | exact l0 0 | (show (_ : Nat) ≠ _; omega)
      refine ⟨s1.heap.objs.size + 4, [s1.heap.objs.size + 4, s1.heap.objs.size + 2, s1.heap.objs.size + 3, s1.heap.objs.size, s1.heap.objs.size + 1], _, _, H1, rfl, I2, turn_zipS (t := t) D, ⟨hz, hTI, ⟨_, _, hTO⟩, ⟨_, h1, rfl, rfl⟩, ⟨_, h2, rfl, rfl⟩⟩, fun c hcm => ?_, q⟩
      have e' : c = s1.heap.objs.size + 4 ∨ c = s1.heap.objs.size + 2 ∨ c = s1.heap.objs.size + 3 ∨ c = s1.heap.objs.size ∨ c = s1.heap.objs.size + 1 := by simpa using hcm
      have hle : s1.heap.objs.size ≤ c := by
        rcases e' with z | z | z | z | z
        · rw [z]; exact Nat.le_add_right _ _
        · rw [z]; exact Nat.le_add_right _ _
        · rw [z]; exact Nat.le_add_right _ _
        · rw [z]; exact Nat.le_refl _
        · rw [z]; exact Nat.le_add_right _ _
      exact I1.fpOk hle (I1.hok.fresh hle)
theorem pi_or {X : Cx} {tg e : Expr} {t t' : TI} (h : PI X tg e t) (h' : PI X tg e t') : PI X tg e fun σ H R => t σ H R ∨ t' σ H R := ⟨fun pins s σ H R I q => q.elim (h.run pins s σ H R I) (h'.run pins s σ H R I)⟩
end ItP

set_option Elab.async false
set_option linter.all false
set_option maxRecDepth 100000
/-! DenA: plain data, a small syntax, and what it yields. No heap in sight. -/
namespace Den
open PySem PySem.Spec PyProof.Rows L2

abbrev D := PyData

/-- a tuple of ints whose object is known: it has methods -/
def isI : D → Bool
  | .int _ => true
  | _ => false
def bxB : List (D × D) → Bool
  | [(.none, .tuple xs)] => xs.all isI
  | _ => false
def boxD (ns : List Int) : D := .dict [(.none, .tuple (ns.map .int))]
mutual
/-- no list and no dict within, but boxes -/
def fz : D → Bool
  | .none => true
  | .bool _ => true
  | .int _ => true
  | .str _ => true
  | .list _ => false
  | .tuple xs => fzs xs
  | .dict kvs => bxB kvs
def fzs : List D → Bool
  | [] => true
  | x :: r => fz x && fzs r
end

/-- a local name: unset, or whether it may be changed, and what it holds -/
abbrev Ev := List (Option (Bool × D))

inductive Bo where | add | sub | mul | fdiv | mod | pow
inductive Co where | eq | ne | lt | le | gt | ge | isN | notN | inn | nin
inductive Bi where
  | len | abs | int | sum | max1 | max2 | min1 | min2 | sorted | list | tuple | any | all
  | isInt | isBool | isStr | isTuple | sortedSet | lenSet | listRng1 | listRng2 | tupRng1 | tupRng2
  | count | index | sidx | join | get2 | sortedD | gcd | strI

mutual
inductive T where
  | n (i : Nat)
  | t (ts : Ts)
inductive Ts where
  | nil
  | cons (t : T) (r : Ts)
end

mutual
inductive E where
  | v (i : Nat)
  | k (c : D)
  | bin (o : Bo) (a b : E)
  | neg (a : E)
  | cmp (o : Co) (a b : E)
  | chn (o o' : Co) (a b c : E)
  | ch3 (o1 o2 o3 : Co) (a b c d : E)
  | tupX (e : E)
  | tidx (a e : E)
  | nt (a : E)
  | an (a b : E)
  | ro (a b : E)
  | ite (c a b : E)
  | tup (es : Es)
  | lst (es : Es)
  | dsp (t : Bool) (ks vs : Es)
  | cal (f : Nat) (es : Es)
  | bi (f : Bi) (es : Es)
  | ix (a b : E)
  | sl (a : E) (lo hi : Eo)
  | rev (a : E)
  | lc (elt : E) (t : T) (src : I) (ifs : Eo) (own : List Nat)
  | lc2 (elt : E) (t : T) (src : I) (t1 : T) (src1 : I) (own own1 : List Nat)
  | dc (tk : Bool) (key val : E) (t : T) (src : I) (ifs : Eo) (own : List Nat)
  | ga (al : Bool) (elt : E) (t : T) (src : I) (ifs : Eo) (own : List Nat)
  | dsk (ks : List Str) (vs : Es)
  | dt1 (k v : E)
  | dtr (i : Nat)
  | mind (i : Nat)
  | lcd (elt : E) (t : T) (i : Nat) (ifs : Eo) (own : List Nat)
  | tix (ks : List Str) (e : E)
  | kdx (kvs : List (Str × Int)) (e : E)
inductive Eo where
  | no
  | so (e : E)
inductive Es where
  | nil
  | cons (e : E) (r : Es)
inductive I where
  | e (e : E)
  | rng1 (a : E)
  | rng2 (a b : E)
  | rng3 (a b c : E)
  | enm (e : E)
  | zip (a b : E)
  | items (e : E)
  | pmR (a : E)
  | cbR (a b : E)
  | cbV (a b : E)
end

mutual
inductive S where
  | asg (t : T) (e : E)
  | app (i : Nat) (e : E)
  | ext (i : Nat) (e : E)
  | set1 (i : Nat) (k e : E)
  | set2 (i : Nat) (k k' e : E)
  | aug (i : Nat) (o : Bo) (e : E)
  | aug1 (i : Nat) (k : E) (o : Bo) (e : E)
  | pop (t : T) (i : Nat)
  | popAt (t : T) (i : Nat) (k : E)
  | popD (t : T) (i : Nat) (k : E)
  | popA (t i : Nat) (k : E)
  | popLc (t : Nat) (tp : Bool) (i : Nat) (k : E) (tg : T) (src : I) (own : List Nat)
  | rem (i : Nat) (e : E)
  | ret (e : E)
  | retV (i : Nat)
  | ife (c : E) (a b : Ss)
  | fore (t : T) (src : I) (b : Ss)
  | ford (t : T) (i : Nat) (b : Ss)
  | whil (c : E) (b : Ss)
  | brk
  | cnt
  | nop
inductive Ss where
  | nil
  | cons (s : S) (r : Ss)
end

abbrev lim : Nat := 16777216

/-! ### operations on data -/
def scl : D → Bool
  | .none => true
  | .bool _ => true
  | .int _ => true
  | .str _ => true
  | _ => false
def inD (x : D) (ys : List D) : Option Bool :=
  if SeqAt.shaped x && SeqAt.shaped (.list ys) then some (ys.any fun z => PyData.eqv z x) else none
def isKey : D → Bool
  | .int _ => true
  | .str _ => true
  | _ => false
def keyOk : D → Bool
  | .int _ => true
  | .str _ => true
  | .tuple xs => xs.all isKey
  | _ => false
/-- the script, a list of ints that is only read: it has a form of its own -/
def scrD (ns : List Int) : D := .dict [(.none, .list (ns.map .int))]
def intsD : List D → Option (List Int)
  | [] => some []
  | .int i :: r => (intsD r).map (i :: ·)
  | _ :: _ => none
def scrOf : List (D × D) → Option (List Int)
  | [(.none, .list xs)] => intsD xs
  | [(.none, .tuple xs)] => if xs.all isI then some [] else none
  | _ => none
def boxOf : List (D × D) → Option (List Int)
  | [(.none, .tuple xs)] => intsD xs
  | _ => none
/-- a dict whose keys are tuples: it says so ahead of its entries -/
def tk : List (D × D) → Bool
  | (.none, .none) :: _ => true
  | _ => false
def ent (kvs : List (D × D)) : List (D × D) := if tk kvs then kvs.tail else kvs
def keyFor (kvs : List (D × D)) (k : D) : Bool :=
  if tk kvs then match k with
    | .tuple xs => xs.all isKey
    | _ => false
  else isKey k
def dGet (kvs : List (D × D)) (k : D) : Option D := (kvs.find? fun p => PyData.eqv p.1 k).map (·.2)
def dPut (kvs : List (D × D)) (k v : D) : List (D × D) :=
  if kvs.any (fun p => PyData.eqv p.1 k) then kvs.map (fun p => if PyData.eqv p.1 k then (p.1, v) else p) else kvs ++ [(k, v)]
def putOk (kvs : List (D × D)) (k v : D) : Bool := keyFor kvs k && (fz v || (dGet kvs k).isNone)
def dDrop (kvs : List (D × D)) (k : D) : List (D × D) := kvs.filter fun p => !PyData.eqv p.1 k

def eqD (x y : D) : Option Bool :=
  match x, y with
  | .int i, .int j => some (decide (i = j))
  | .str i, .str j => some (decide (i = j))
  | .bool i, .bool j => some (decide (i = j))
  | x, y => if SeqAt.shaped x && SeqAt.shaped y then some (PyData.eqv x y) else none
def ltD (x y : D) : Option Bool :=
  match x, y with
  | .int i, .int j => some (decide (i < j))
  | .tuple xs, .tuple ys => if PySem.W.alike (.tuple xs) (.tuple ys) && SeqAt.shaped (.tuple xs) && SeqAt.shaped (.tuple ys) then some (PySem.W.dataLt (.tuple xs) (.tuple ys)) else none
  | _, _ => none
def ltI (x y : D) : Option Bool :=
  match x, y with
  | .int i, .int j => some (decide (i < j))
  | _, _ => none
def cmpD (o : Co) (x y : D) : Option Bool :=
  match o with
  | .eq => eqD x y
  | .ne => (eqD x y).map (!·)
  | .lt => ltD x y
  | .gt => ltD y x
  | .le => (ltD y x).map (!·)
  | .ge => (ltD x y).map (!·)
  | .isN => match y with
    | .none => match x with
      | .none => some true
      | _ => some false
    | _ => none
  | .notN => match y with
    | .none => match x with
      | .none => some false
      | _ => some true
    | _ => none
  | .inn => match x, y with
    | x, .list ys => inD x ys
    | x, .tuple ys => inD x ys
    | x, .dict kvs => if keyFor kvs x ∧ scrOf kvs = none then some (dGet kvs x).isSome else none
    | .str c, .str z => if c.length = 1 then some (decide (c.cps.getD 0 0 ∈ z.cps.toList)) else none
    | _, _ => none
  | .nin => match x, y with
    | x, .list ys => (inD x ys).map (!·)
    | x, .tuple ys => (inD x ys).map (!·)
    | x, .dict kvs => if keyFor kvs x ∧ scrOf kvs = none then some (dGet kvs x).isNone else none
    | .str c, .str z => if c.length = 1 then some (!decide (c.cps.getD 0 0 ∈ z.cps.toList)) else none
    | _, _ => none

def binD (o : Bo) (x y : D) : Option (Bool × D) :=
  match o, x, y with
  | .add, .int i, .int j => some (true, .int (i + j))
  | .add, .str i, .str j => if i.length + j.length ≤ lim then some (true, .str (i ++ j)) else none
  | .add, .tuple xs, .tuple ys => if xs.length + ys.length ≤ lim then some (fzs (xs ++ ys), .tuple (xs ++ ys)) else none
  | .add, .list xs, .list ys => if xs.length + ys.length ≤ lim then some (fzs (xs ++ ys), .list (xs ++ ys)) else none
  | .sub, .int i, .int j => some (true, .int (i - j))
  | .mul, .int i, .int j => if (-18446744073709551616 < i ∧ i < 18446744073709551616) ∨ (-18446744073709551616 < j ∧ j < 18446744073709551616) then some (true, .int (i * j)) else none
  | .mul, .list xs, .int k => if fzs xs ∧ 0 ≤ k ∧ k ≤ 1000 ∧ xs.length ≤ 1000 then some (true, .list (List.replicate k.toNat xs).flatten) else none
  | .mul, .tuple xs, .int k => if fzs xs ∧ xs ≠ [] ∧ 0 ≤ k ∧ k ≤ 1000 ∧ xs.length ≤ 1000 then some (true, .tuple (List.replicate k.toNat xs).flatten) else none
  | .fdiv, .int i, .int j => if 0 < j ∧ j < 1073741824 then some (true, .int (i / j)) else none
  | .mod, .int i, .int j => if 0 < j then some (true, .int (i % j)) else none
  | .pow, .int i, .int j => if 0 ≤ j ∧ j ≤ 1000000 ∧ i.natAbs < 18446744073709551616 then some (true, .int (i ^ j.toNat)) else none
  | _, _, _ => none

def truD (x : D) : Option Bool :=
  match x with
  | .none => some false
  | .bool b => some b
  | .int i => some (i != 0)
  | .str y => if y.length ≤ lim then some ((y.length : Int) != 0) else none
  | .list xs => some (!xs.isEmpty)
  | .tuple xs => some (!xs.isEmpty)
  | .dict _ => none

def ixD (x y : D) : Option (Bool × D) :=
  match x, y with
  | .list xs, .int i => (atI xs i).map fun z => (fz z, z)
  | .tuple xs, .int i => (atI xs i).map fun z => (fz z, z)
  | .str z, .int i => if z.length ≤ lim then (atI z.cps.toList i).map fun c => (true, .str ⟨#[c]⟩) else none
  | .dict kvs, k => match scrOf kvs with
    | some ns => match k with
      | .int i => (atI ns i).map fun z => (true, .int z)
      | _ => none
    | none => if keyFor kvs k then (dGet kvs k).map fun z => (fz z, z) else none
  | _, _ => none
def cutD {α : Type} (xs : List α) (lo hi : Option Int) : List α := (xs.drop (HT.sIx xs.length 0 lo)).take (HT.sIx xs.length xs.length hi - HT.sIx xs.length 0 lo)
def slD (x : D) (lo hi : Option Int) : Option (Bool × D) :=
  match x with
  | .list xs => some (fzs (cutD xs lo hi), .list (cutD xs lo hi))
  | .tuple xs => some (fzs (cutD xs lo hi), .tuple (cutD xs lo hi))
  | .str z => if z.length ≤ lim then some (true, .str (cutS z lo hi)) else none
  | _ => none
def revD (x : D) : Option (Bool × D) :=
  match x with
  | .list xs => if fzs xs then some (true, .list xs.reverse) else none
  | .tuple xs => if fzs xs then some (true, .tuple xs.reverse) else none
  | _ => none
def optI (x : D) : Option (Option Int) :=
  match x with
  | .int i => some (some i)
  | _ => none

def boolsD : List D → Option (List Bool)
  | [] => some []
  | .bool b :: r => (boolsD r).map (b :: ·)
  | _ :: _ => none
def strsD : List D → Option (List Str)
  | [] => some []
  | .str z :: r => (strsD r).map (z :: ·)
  | _ :: _ => none
def maxI : List Int → Int
  | [] => 0
  | x :: r => r.foldl (fun a b => if b > a then b else a) x
def minI : List Int → Int
  | [] => 0
  | x :: r => r.foldl (fun a b => if b < a then b else a) x
def getD? (ρ : Ev) (i : Nat) : Option (Bool × D) := match ρ[i]? with
  | some (some p) => some p
  | _ => none

def shr (p : Option (Bool × D)) : Option (Bool × D) := p.map fun p => (fz p.2, p.2)
/-- a slot (or all) may no more be changed -/
def shareE : Option Nat → Ev → Ev
  | some i, ρ => ρ.modify i shr
  | none, ρ => ρ.map shr
/-- the keys of the dict in a slot, in their order -/
def keysAt (i : Nat) (ρ : Ev) : Option (List D) := match getD? ρ i with
  | some (_, .dict kvs) => if scrOf kvs = none then some ((ent kvs).map (·.1)) else none
  | _ => none
/-- a list of items, a comprehension's turns: st stores the item, te tests, el gives -/
def lcD (st : D → Ev → Option Ev) (te : Ev → Option (Bool × D)) (el : Ev → Option (Bool × D)) (ρ : Ev) : List D → Option (List (Bool × D))
  | [] => some []
  | x :: r => match st x ρ with
    | none => none
    | some ρ' => match te ρ' with
      | some (_, .bool true) => match el ρ' with
        | none => none
        | some y => (lcD st te el ρ r).map (y :: ·)
      | some (_, .bool false) => lcD st te el ρ r
      | _ => none
def lc2D (st : D → Ev → Option Ev) (src1 : Ev → Option (Bool × List D)) (st1 : D → Ev → Option Ev) (el : Ev → Option (Bool × D)) (w1 : Ev → Ev) (ρ : Ev) : List D → Option (List (Bool × D))
  | [] => some []
  | x :: r => match st x ρ with
    | none => none
    | some ρ' => match src1 ρ' with
      | none => none
      | some (_, ys) => if fzs ys then match lcD st1 (fun _ => some (true, .bool true)) el (w1 ρ') ys with
        | none => none
        | some a => (lc2D st src1 st1 el w1 ρ r).map (a ++ ·)
        else none
def dcD (st : D → Ev → Option Ev) (te : Ev → Option (Bool × D)) (ke va : Ev → Option (Bool × D)) (ρ : Ev) : List D → Bool → List (D × D) → Option (Bool × List (D × D))
  | [], f, acc => some (f, acc)
  | x :: r, f, acc => match st x ρ with
    | none => none
    | some ρ' => match te ρ' with
      | some (_, .bool true) => match ke ρ' with
        | none => none
        | some (_, k) => match va ρ' with
          | none => none
          | some (b, v) => if putOk acc k v then dcD st te ke va ρ r (f && b) (dPut acc k v) else none
      | some (_, .bool false) => dcD st te ke va ρ r f acc
      | _ => none
/-- all, any of a generator expression -/
def gaD (al : Bool) (st : D → Ev → Option Ev) (te : Ev → Option (Bool × D)) (el : Ev → Option (Bool × D)) (ρ : Ev) : List D → Option Bool
  | [] => some al
  | x :: r => match st x ρ with
    | none => none
    | some ρ' => match te ρ' with
      | some (_, .bool true) => match el ρ' with
        | some (_, .bool b) => if b = al then gaD al st te el ρ r else some b
        | _ => none
      | some (_, .bool false) => gaD al st te el ρ r
      | _ => none

mutual
/-- an item stored: b tells whether what it holds of its own may be changed -/
def setT : T → Bool → D → Ev → Option Ev
  | .n i, b, d, ρ => if i < ρ.length then some (ρ.set i (some (b || fz d, d))) else none
  | .t ts, b, .tuple ds, ρ => setTs ts b ds ρ
  | .t _, _, _, _ => none
def setTs : Ts → Bool → List D → Ev → Option Ev
  | .nil, _, [], ρ => some ρ
  | .cons t r, b, d :: ds, ρ => match setT t b d ρ with
    | none => none
    | some ρ' => setTs r b ds ρ'
  | _, _, _, _ => none
end
def wipeE (ρ : Ev) : List Nat → Ev
  | [] => ρ
  | v :: vs => (wipeE ρ vs).set v none

def rngD (a b : Int) : List D := (List.range (b - a).toNat).map fun i => .int (a + (i : Nat))
/-- the items at these places -/
def rowD (ds : List D) (p : List Nat) : List D := p.map fun j => ds.getD j .none
/-- from a down to b, b left out -/
def rngN (a b : Int) : List D := (List.range (a - b).toNat).map fun i => .int (a - (i : Nat))
def itemsD : D → Option (List D)
  | .list xs => some xs
  | .tuple xs => some xs
  | .str z => some (z.cps.toList.map fun c => .str ⟨#[c]⟩)
  | _ => none
def enmD (xs : List D) : List D := xs.zipIdx.map fun p => .tuple [.int p.2, p.1]
def zipD (xs ys : List D) : List D := (xs.zip ys).map fun p => .tuple [p.1, p.2]
def sortL (xs : List D) : List D := xs.mergeSort (PySem.W.dataLe false id)
def alikeL (xs : List D) : Bool := xs.all fun x => xs.all fun y => PySem.W.alike x y
def sortableB (xs : List D) : Bool := (xs.all fun x => match x with
  | .tuple (_ :: _) => true
  | _ => false) || xs.all fun x => match x with
  | .int _ => true
  | .str _ => true
  | _ => false
def sortD (xs : List D) : Option (List D) := if alikeL xs && sortableB xs && SeqAt.shaped (.list xs) && decide (xs.length ≤ lim) then some (sortL xs) else none
def dedupD : List D → List D
  | [] => []
  | x :: r => if r.any (PyData.eqv x) then dedupD r else x :: dedupD r
/-- a pair of ints from 0 to 63 -/
def pr64 : D → Bool
  | .tuple [.int i, .int j] => decide (0 ≤ i ∧ i < 64) && decide (0 ≤ j ∧ j < 64)
  | _ => false
def firstAt (x : D) : List D → Option Nat
  | [] => none
  | y :: r => if PyData.eqv y x then some 0 else (firstAt x r).map (· + 1)

def tyD : D → Option String
  | .none => some "NoneType"
  | .bool _ => some "bool"
  | .int _ => some "int"
  | .str _ => some "str"
  | .tuple _ => some "tuple"
  | .list _ => some "list"
  | .dict _ => none
def isaD (x : D) (t : String) : Option (Bool × D) := (tyD x).map fun y => (true, .bool (y == t || (y == "bool" && t == "int")))
def biD (f : Bi) (as : List (Bool × D)) : Option (Bool × D) :=
  match f, as with
  | .len, [(_, .list xs)] => some (true, .int xs.length)
  | .len, [(_, .tuple xs)] => some (true, .int xs.length)
  | .len, [(_, .str z)] => if z.length ≤ lim then some (true, .int z.length) else none
  | .len, [(_, .dict kvs)] => match scrOf kvs with
    | some ns => if bxB kvs then none else some (true, .int ns.length)
    | none => some (true, .int (ent kvs).length)
  | .abs, [(_, .int i)] => some (true, .int (if i < 0 then -i else i))
  | .int, [(_, .int i)] => some (true, .int i)
  | .int, [(_, .bool b)] => some (true, .int (if b then 1 else 0))
  | .sum, [(_, .list xs)] => (intsD xs).map fun ns => (true, .int ns.sum)
  | .sum, [(_, .tuple xs)] => (intsD xs).map fun ns => (true, .int ns.sum)
  | .max1, [(_, .list xs)] => if xs.isEmpty then none else (intsD xs).map fun ns => (true, .int (maxI ns))
  | .min1, [(_, .list xs)] => if xs.isEmpty then none else (intsD xs).map fun ns => (true, .int (minI ns))
  | .max1, [(_, .tuple xs)] => if xs.isEmpty then none else (intsD xs).map fun ns => (true, .int (maxI ns))
  | .min1, [(_, .tuple xs)] => if xs.isEmpty then none else (intsD xs).map fun ns => (true, .int (minI ns))
  | .max2, [(_, .int i), (_, .int j)] => some (true, .int (if j > i then j else i))
  | .min2, [(_, .int i), (_, .int j)] => some (true, .int (if j < i then j else i))
  | .sorted, [(_, .list xs)] => if fzs xs then (sortD xs).map fun ys => (true, .list ys) else none
  | .sorted, [(_, .tuple xs)] => if fzs xs then (sortD xs).map fun ys => (true, .list ys) else none
  | .sorted, [(_, .dict kvs)] => if scrOf kvs = none ∧ tk kvs = false then (sortD (kvs.map (·.1))).map fun ys => (true, .list ys) else none
  | .list, [(_, .list xs)] => some (fzs xs, .list xs)
  | .list, [(_, .tuple xs)] => some (fzs xs, .list xs)
  | .tuple, [(_, .list xs)] => some (fzs xs, .tuple xs)
  | .tuple, [(_, .tuple xs)] => some (fzs xs, .tuple xs)
  | .any, [(_, .list xs)] => (boolsD xs).map fun bs => (true, .bool (bs.any id))
  | .any, [(_, .tuple xs)] => (intsD xs).map fun ns => (true, .bool (ns.any (· != 0)))
  | .gcd, [(_, .int i), (_, .int j)] => some (true, .int (Nat.gcd i.natAbs j.natAbs : Nat))
  | .all, [(_, .list xs)] => (boolsD xs).map fun bs => (true, .bool (bs.all id))
  | .isInt, [(_, x)] => isaD x "int"
  | .isBool, [(_, x)] => isaD x "bool"
  | .isStr, [(_, x)] => isaD x "str"
  | .isTuple, [(_, x)] => isaD x "tuple"
  | .sortedSet, [(_, .list xs)] => if decide (xs.length < 64) && (intsD xs).isSome then some (true, .list (sortL (dedupD xs))) else none
  | .sortedSet, [(_, .tuple xs)] => if decide (xs.length < 64) && xs.all pr64 then some (true, .list (sortL (dedupD xs))) else none
  | .lenSet, [(_, .list xs)] => if decide (xs.length < 64) && (intsD xs).isSome then some (true, .int (dedupD xs).length) else none
  | .lenSet, [(_, .tuple xs)] => if decide (xs.length < 64) && (intsD xs).isSome then some (true, .int (dedupD xs).length) else none
  | .listRng1, [(_, .int n)] => if -1000 ≤ n ∧ n ≤ 1000 then some (true, .list (rngD 0 n)) else none
  | .listRng2, [(_, .int m), (_, .int n)] => if (-1000 ≤ m ∧ m ≤ 1000) ∧ -1000 ≤ n ∧ n ≤ 1000 then some (true, .list (rngD m n)) else none
  | .tupRng1, [(_, .int n)] => if -1000 ≤ n ∧ n ≤ 1000 then some (true, .tuple (rngD 0 n)) else none
  | .tupRng2, [(_, .int m), (_, .int n)] => if (-1000 ≤ m ∧ m ≤ 1000) ∧ -1000 ≤ n ∧ n ≤ 1000 then some (true, .tuple (rngD m n)) else none
  | .count, [(_, .str z), (_, .str c)] => if c.length = 1 ∧ z.length ≤ lim then some (true, .int (z.cps.toList.count (c.cps.getD 0 0) : Nat)) else none
  | .join, [(_, .str sep), (_, .list xs)] => (strsD xs).bind fun ss => if ((ss.map Str.length).sum + ss.length * sep.length ≤ lim) then some (true, .str (Txt.join sep ss)) else none
  | .join, [(_, .str sep), (_, .tuple xs)] => (strsD xs).bind fun ss => if ((ss.map Str.length).sum + ss.length * sep.length ≤ lim) then some (true, .str (Txt.join sep ss)) else none
  | .strI, [(_, .bool c)] => some (true, .str (if c then "True" else "False"))
  | .strI, [(_, .int i)] => if i.natAbs.log2 < 1920 then some (true, .str (toString i)) else none
  | .sidx, [(_, .str z), (_, .str c)] => match Builtin.Str.occurrences z c 0 z.length 1 with
    | i :: _ => some (true, .int (i : Nat))
    | [] => none
  | .index, [(_, .tuple xs), (_, x)] => if SeqAt.shaped x && SeqAt.shaped (.tuple xs) then (firstAt x xs).map fun j => (true, .int (j : Nat)) else none
  | .index, [(_, .list xs), (_, x)] => if SeqAt.shaped x && SeqAt.shaped (.list xs) then (firstAt x xs).map fun j => (true, .int (j : Nat)) else none
  | _, _ => none

def fin (m : Bool) (r : Option (Bool × D)) : Option (Bool × D) :=
  if m then match r with
    | none => none
    | some p => (truD p.2).map fun b => (true, .bool b)
  else r
def boolD (r : Option Bool) : Option (Bool × D) := r.map fun b => (true, .bool b)

section
variable (cal : Nat → List (Bool × D) → Option (Bool × D))
mutual
/-- what an expression yields: m, as a test -/
def ev : E → Bool → Ev → Option (Bool × D)
  | .v i, m, ρ => fin m ((getD? ρ i).map fun p => (fz p.2, p.2))
  | .k c, m, _ => fin m (some (true, c))
  | .bin o a b, m, ρ => fin m (match ev a false ρ with
    | none => none
    | some (_, x) => match ev b false ρ with
      | none => none
      | some (_, y) => binD o x y)
  | .neg a, m, ρ => fin m (match ev a false ρ with
    | some (_, .int i) => some (true, .int (-i))
    | _ => none)
  | .cmp o a b, m, ρ => fin m (match ev a false ρ with
    | none => none
    | some (_, x) => match ev b false ρ with
      | none => none
      | some (_, y) => boolD (cmpD o x y))
  | .chn o o' a b c, m, ρ => fin m (match ev a false ρ with
    | none => none
    | some (_, x) => match ev b false ρ with
      | none => none
      | some (_, y) => match cmpD o x y with
        | none => none
        | some false => some (true, .bool false)
        | some true => match ev c false ρ with
          | none => none
          | some (_, z) => boolD (cmpD o' y z))
  | .ch3 o1 o2 o3 a b c d, m, ρ => fin m (match ev a false ρ with
    | none => none
    | some (_, x) => match ev b false ρ with
      | none => none
      | some (_, y) => match cmpD o1 x y with
        | none => none
        | some false => some (true, .bool false)
        | some true => match ev c false ρ with
          | none => none
          | some (_, z) => match cmpD o2 y z with
            | none => none
            | some false => some (true, .bool false)
            | some true => match ev d false ρ with
              | none => none
              | some (_, u) => boolD (cmpD o3 z u))
  | .tupX a, m, ρ => fin m (match ev a false ρ with
    | some (_, .list xs) => (intsD xs).map fun ns => (true, boxD ns)
    | _ => none)
  | .tidx a b, m, ρ => fin m (match ev a false ρ with
    | some (_, .dict kvs) => match boxOf kvs with
      | some ns => match ev b false ρ with
        | some (_, .int k) => (ns.findIdx? fun x => decide (x = k)).map fun j => (true, .int (j : Nat))
        | _ => none
      | none => none
    | some (_, .list xs) => match intsD xs with
      | some ns => match ev b false ρ with
        | some (_, .int k) => (ns.findIdx? fun x => decide (x = k)).map fun j => (true, .int (j : Nat))
        | _ => none
      | none => none
    | _ => none)
  | .nt a, m, ρ => match ev a m ρ with
    | some (_, .bool b) => some (true, .bool (!b))
    | _ => none
  | .an a b, m, ρ => match ev a m ρ with
    | some (_, .bool true) => ev b m ρ
    | some (_, .bool false) => some (true, .bool false)
    | _ => none
  | .ro a b, m, ρ => match ev a m ρ with
    | some (_, .bool false) => ev b m ρ
    | some (_, .bool true) => some (true, .bool true)
    | _ => none
  | .ite c a b, m, ρ => match ev c true ρ with
    | some (_, .bool true) => ev a m ρ
    | some (_, .bool false) => ev b m ρ
    | _ => none
  | .tup es, m, ρ => fin m (match evs es ρ with
    | none => none
    | some ps => if ps.length ≤ lim then some (ps.all (·.1), .tuple (ps.map (·.2))) else none)
  | .lst es, m, ρ => fin m (match evs es ρ with
    | none => none
    | some ps => if ps.length ≤ lim then some (ps.all (·.1), .list (ps.map (·.2))) else none)
  | .dsp t ks vs, m, ρ => fin m (match evs ks ρ with
    | none => none
    | some kz => match evs vs ρ with
      | none => none
      | some vz => if kz.length ≤ 15 ∧ kz.length = vz.length ∧ (kz.all fun k => keyFor (if t then [(.none, .none)] else []) k.2) then some (vz.all (·.1), .dict ((kz.zip vz).foldl (fun acc p => dPut acc p.1.2 p.2.2) (if t then [(.none, .none)] else []))) else none)
  | .cal f es, m, ρ => fin m (match evs es ρ with
    | none => none
    | some ps => cal f ps)
  | .bi f es, m, ρ => fin m (match evs es ρ with
    | none => none
    | some ps => biD f ps)
  | .ix a b, m, ρ => fin m (match ev a false ρ with
    | none => none
    | some (_, x) => match ev b false ρ with
      | none => none
      | some (_, y) => ixD x y)
  | .sl a lo hi, m, ρ => fin m (match ev a false ρ with
    | none => none
    | some (_, x) => match evo lo ρ with
      | none => none
      | some l => match evo hi ρ with
        | none => none
        | some h => slD x l h)
  | .rev a, m, ρ => fin m (match ev a false ρ with
    | none => none
    | some (_, x) => revD x)
  | .lc elt t src ifs own, m, ρ => fin m (match evi src ρ with
    | none => none
    | some (_, xs) => match lcD (fun d ρ => setT t false d ρ) (fun ρ => evt ifs ρ) (fun ρ => ev elt false ρ) (wipeE ρ own) xs with
      | none => none
      | some ps => if xs.length ≤ lim then some (ps.all (·.1), .list (ps.map (·.2))) else none)
  | .lc2 elt t src t1 src1 own own1, m, ρ => fin m (match evi src ρ with
    | none => none
    | some (_, xs) => match lc2D (fun d ρ => setT t false d ρ) (fun ρ => evi src1 ρ) (fun d ρ => setT t1 false d ρ) (fun ρ => ev elt false ρ) (fun ρ => wipeE ρ own1) (wipeE ρ own) xs with
      | none => none
      | some ps => if ps.length ≤ lim then some (ps.all (·.1), .list (ps.map (·.2))) else none)
  | .dc tk key val t src ifs own, m, ρ => fin m (match evi src ρ with
    | none => none
    | some (_, xs) => match dcD (fun d ρ => setT t false d ρ) (fun ρ => evt ifs ρ) (fun ρ => ev key false ρ) (fun ρ => ev val false ρ) (wipeE ρ own) xs true (if tk then [(.none, .none)] else []) with
      | none => none
      | some (f, kvs) => if xs.length ≤ lim then some (f, .dict kvs) else none)
  | .ga al elt t src ifs own, m, ρ => fin m (match evi src ρ with
    | none => none
    | some (_, xs) => boolD (gaD al (fun d ρ => setT t false d ρ) (fun ρ => evt ifs ρ) (fun ρ => ev elt false ρ) (wipeE ρ own) xs))
  | .dsk ks vs, m, ρ => fin m (match evs vs ρ with
    | none => none
    | some ps => if ((ks ≠ [] ∧ ks.length ≤ 15) ∧ ks.Nodup) ∧ ks.length = ps.length ∧ fzs (ps.map (·.2)) = true then some (true, .dict ((ks.map .str).zip (ps.map (·.2)))) else none)
  | .dtr i, m, ρ => fin m (match ρ[i]? with
    | some (some (true, .dict kvs)) => if scrOf kvs = none ∧ tk kvs = false then some (true, .bool (!kvs.isEmpty)) else none
    | _ => none)
  | .mind i, m, ρ => fin m (match getD? ρ i with
    | some (true, .dict kvs) => if (scrOf kvs = none ∧ tk kvs = false) ∧ kvs ≠ [] then (intsD (kvs.map (·.1))).map fun ns => (true, .int (minI ns)) else none
    | _ => none)
  | .lcd elt t i ifs own, m, ρ => fin m (match keysAt i ρ with
    | none => none
    | some xs => match lcD (fun d ρ => setT t false d ρ) (fun ρ => evt ifs ρ) (fun ρ => ev elt false ρ) (wipeE (shareE none ρ) own) xs with
      | none => none
      | some ps => if xs.length ≤ lim then some (ps.all (·.1), .list (ps.map (·.2))) else none)
  | .dt1 k v, m, ρ => fin m (match ev k false ρ with
    | some (_, .tuple ks) => (match ev v false ρ with
      | some (_, d) => if ks.all isKey = true ∧ fz d = true then some (true, .dict [(.none, .none), (.tuple ks, d)]) else none
      | none => none)
    | _ => none)
  | .tix ks e, m, ρ => fin m (match ev e false ρ with
    | some (_, .str z) => if ks.length ≤ 1000 then (ks.findIdx? fun k => decide (k = z)).map fun j => (true, .int (j : Nat)) else none
    | _ => none)
  | .kdx kvs e, m, ρ => fin m (match ev e false ρ with
    | some (_, .str z) => (kvs.lookup z).map fun i => (true, .int i)
    | _ => none)
def evt : Eo → Ev → Option (Bool × D)
  | .no, _ => some (true, .bool true)
  | .so e, ρ => ev e true ρ
def evo : Eo → Ev → Option (Option Int)
  | .no, _ => some none
  | .so e, ρ => match ev e false ρ with
    | none => none
    | some (_, x) => optI x
def evs : Es → Ev → Option (List (Bool × D))
  | .nil, _ => some []
  | .cons e r, ρ => match ev e false ρ with
    | none => none
    | some p => match evs r ρ with
      | none => none
      | some ps => some (p :: ps)
def evi : I → Ev → Option (Bool × List D)
  | .e e, ρ => match ev e false ρ with
    | none => none
    | some (b, x) => (itemsD x).map fun xs => (b, xs)
  | .rng1 a, ρ => match ev a false ρ with
    | some (_, .int n) => if n < 4611686018427387904 ∧ -4611686018427387904 ≤ n then some (true, rngD 0 n) else none
    | _ => none
  | .rng2 a b, ρ => match ev a false ρ with
    | some (_, .int m) => match ev b false ρ with
      | some (_, .int n) => if m < 4611686018427387904 ∧ -4611686018427387904 ≤ m ∧ n < 4611686018427387904 ∧ -4611686018427387904 ≤ n then some (true, rngD m n) else none
      | _ => none
    | _ => none
  | .rng3 a b c, ρ => match ev a false ρ with
    | some (_, .int m) => match ev b false ρ with
      | some (_, .int n) => match ev c false ρ with
        | some (_, .int s) => if s = -1 ∧ m < 4611686018427387904 ∧ -4611686018427387904 ≤ m ∧ n < 4611686018427387904 ∧ -4611686018427387904 ≤ n then some (true, rngN m n) else none
        | _ => none
      | _ => none
    | _ => none
  | .enm e, ρ => match ev e false ρ with
    | some (b, .list xs) => some (b, enmD xs)
    | some (b, .tuple xs) => some (b, enmD xs)
    | _ => none
  | .zip a b, ρ => match ev a false ρ with
    | none => none
    | some (p, x) => match ev b false ρ with
      | none => none
      | some (q, y) => match x, y with
        | .list xs, .list ys => some (p && q, zipD xs ys)
        | .tuple xs, .tuple ys => some (p && q, zipD xs ys)
        | .tuple xs, .str z => some (p && q, zipD xs (z.cps.toList.map fun c => .str ⟨#[c]⟩))
        | _, _ => none
  | .pmR a, ρ => match ev a false ρ with
    | some (_, .int n) => if 0 ≤ n ∧ n < 6 then some (true, (ItP.permI n.toNat).map fun p => .tuple (rowD (rngD 0 n) p)) else none
    | _ => none
  | .cbR a b, ρ => match ev a false ρ with
    | some (_, .int n) => match ev b false ρ with
      | some (_, .int k) => if (0 ≤ n ∧ n < 9) ∧ 0 ≤ k ∧ k ≤ 1000 then some (true, (ItP.combI n.toNat k.toNat).map fun p => .tuple (rowD (rngD 0 n) p)) else none
      | _ => none
    | _ => none
  | .cbV a b, ρ => match ev a false ρ with
    | none => none
    | some (_, x) => match ev b false ρ with
      | some (_, .int k) => match x with
        | .list ds => if (ds.length < 9 ∧ fzs ds = true) ∧ 0 ≤ k ∧ k ≤ 1000 then some (true, (ItP.combI ds.length k.toNat).map fun p => .tuple (rowD ds p)) else none
        | .tuple ds => if (ds.length < 9 ∧ fzs ds = true) ∧ 0 ≤ k ∧ k ≤ 1000 then some (true, (ItP.combI ds.length k.toNat).map fun p => .tuple (rowD ds p)) else none
        | _ => none
      | _ => none
  | .items e, ρ => match ev e false ρ with
    | some (b, .dict kvs) => if scrOf kvs = none then some (b, (ent kvs).map fun p => .tuple [p.1, p.2]) else none
    | _ => none
end
end

/-! ### statements -/
inductive Fl where
  | next | brk | cont
  | ret (b : Bool) (d : D)

def vn : E → Option Nat
  | .v i => some i
  | _ => none
def vns (e : E) : Option (List Nat) := (vn e).map fun i => [i]
def vnI : I → Option (List Nat)
  | .e e => vns e
  | .enm e => vns e
  | .zip a b => (vns a).bind fun x => (vns b).map fun y => x ++ y
  | _ => none
/-- these may no more be changed (or none) -/
def shareL : Option (List Nat) → Ev → Ev
  | some is, ρ => is.foldr (fun i ρ => shareE (some i) ρ) ρ
  | none, ρ => shareE none ρ
def ownD (ρ : Ev) (i : Nat) : Option D := match getD? ρ i with
  | some (true, d) => some d
  | _ => none

def forD (st : D → Ev → Option Ev) (body : Ev → Option (Fl × Ev)) : List D → Ev → Option (Fl × Ev)
  | [], ρ => some (.next, ρ)
  | x :: r, ρ => match st x ρ with
    | none => none
    | some ρ' => match body ρ' with
      | none => none
      | some (.next, ρ'') => forD st body r ρ''
      | some (.cont, ρ'') => forD st body r ρ''
      | some (.brk, ρ'') => some (.next, ρ'')
      | some (.ret b d, ρ'') => some (.ret b d, ρ'')
def whD (te : Ev → Option (Bool × D)) (body : Ev → Option (Fl × Ev)) : Nat → Ev → Option (Fl × Ev)
  | 0, _ => none
  | n + 1, ρ => match te ρ with
    | some (_, .bool true) => match body ρ with
      | none => none
      | some (.next, ρ'') => whD te body n ρ''
      | some (.cont, ρ'') => whD te body n ρ''
      | some (.brk, ρ'') => some (.next, ρ'')
      | some (.ret b d, ρ'') => some (.ret b d, ρ'')
    | some (_, .bool false) => some (.next, ρ)
    | _ => none
/-- pops by a comprehension: st stores the item, k tells the place -/
def popL (i : Nat) (st : D → Ev → Option Ev) (k : Ev → Option (Bool × D)) (w : Ev → Ev) (ρ : Ev) : List D → List D → Option (List D × List D)
  | [], xs => some ([], xs)
  | d :: r, xs => match st d (w (ρ.set i (some (true, .list xs)))) with
    | none => none
    | some ρ' => match k ρ' with
      | some (_, .int j) => match ixN xs.length j with
        | none => none
        | some m => match xs[m]? with
          | none => none
          | some z => (popL i st k w ρ r (xs.eraseIdx m)).map fun p => (z :: p.1, p.2)
      | _ => none

section
variable (cal : Nat → List (Bool × D) → Option (Bool × D)) (fu : Nat)
mutual
def exS : S → Ev → Option (Fl × Ev)
  | .asg t e, ρ => match ev cal e false ρ with
    | none => none
    | some (b, d) => (setT t b d (if b then ρ else shareE (vn e) ρ)).map fun ρ => (.next, ρ)
  | .app i e, ρ => match ownD ρ i with
    | some (.list xs) => match ev cal e false ρ with
      | some (true, d) => if xs.length < lim then some (.next, ρ.set i (some (true, .list (xs ++ [d])))) else none
      | _ => none
    | _ => none
  | .ext i e, ρ => match ownD ρ i with
    | some (.list xs) => match ev cal e false ρ with
      | some (true, .list ys) => if xs.length + ys.length ≤ lim ∧ fzs ys then some (.next, ρ.set i (some (true, .list (xs ++ ys)))) else none
      | some (_, .tuple ys) => if xs.length + ys.length ≤ lim ∧ fzs ys then some (.next, ρ.set i (some (true, .list (xs ++ ys)))) else none
      | _ => none
    | _ => none
  | .set1 i k e, ρ => match ev cal e false ρ with
    | some (true, d) => match ev cal k false ρ with
      | none => none
      | some (_, kd) => match ownD ρ i, kd with
        | some (.list xs), .int j => match ixN xs.length j with
          | none => none
          | some m => some (.next, ρ.set i (some (true, .list (xs.set m d))))
        | some (.dict kvs), kd => if putOk kvs kd d ∧ kvs.length < lim ∧ scrOf kvs = none then some (.next, ρ.set i (some (true, .dict (dPut kvs kd d)))) else none
        | _, _ => none
    | _ => none
  | .set2 i k k' e, ρ => match ev cal e false ρ with
    | some (true, d) => match ev cal k false ρ with
      | some (_, .int j) => match ev cal k' false ρ with
        | some (_, .int j') => match ownD ρ i with
          | some (.list xs) => match ixN xs.length j with
            | none => none
            | some m => match xs[m]? with
              | some (.list ys) => match ixN ys.length j' with
                | none => none
                | some m' => some (.next, ρ.set i (some (true, .list (xs.set m (.list (ys.set m' d))))))
              | _ => none
          | _ => none
        | _ => none
      | _ => none
    | _ => none
  | .aug i o e, ρ => match getD? ρ i with
    | some (_, x) => match ev cal e false ρ with
      | none => none
      | some (_, y) => match x, y with
        | .int _, .int _ => (binD o x y).map fun r => (.next, ρ.set i (some r))
        | _, _ => none
    | none => none
  | .aug1 i k o e, ρ => match ownD ρ i with
    | some (.list xs) => match ev cal k false ρ with
      | some (_, .int j) => match atI xs j with
        | some (.int a) => match ev cal e false ρ with
          | some (_, .int b) => match ixN xs.length j with
            | some m => match o with
              | .add => some (.next, ρ.set i (some (true, .list (xs.set m (.int (a + b))))))
              | .sub => some (.next, ρ.set i (some (true, .list (xs.set m (.int (a - b))))))
              | _ => none
            | none => none
          | _ => none
        | _ => none
      | _ => none
    | _ => none
  | .popD t i k, ρ => match ownD ρ i with
    | some (.dict kvs) => if scrOf kvs = none ∧ tk kvs = false then match ev cal k false ρ with
      | some (_, kd) => if isKey kd = true then match dGet kvs kd with
        | some d => if fz d = true then (setT t true d (ρ.set i (some (true, .dict (dDrop kvs kd))))).map fun ρ => (.next, ρ) else none
        | none => none else none
      | none => none else none
    | _ => none
  | .popA t i k, ρ => match ownD ρ t with
    | some (.list ts) => match ownD ρ i with
      | some (.list xs) => match ev cal k false ρ with
        | some (_, .int j) => if (xs.length ≤ lim ∧ ts.length < lim) ∧ t ≠ i then match ixN xs.length j with
          | none => none
          | some m => match xs[m]? with
            | none => none
            | some z => if fz z = true then some (.next, (ρ.set i (some (true, .list (xs.eraseIdx m)))).set t (some (true, .list (ts ++ [z])))) else none
          else none
        | _ => none
      | _ => none
    | _ => none
  | .pop t i, ρ => match ownD ρ i with
    | some (.list xs) => match xs[xs.length - 1]? with
      | none => none
      | some z => (setT t true z (ρ.set i (some (true, .list (xs.eraseIdx (xs.length - 1)))))).map fun ρ => (.next, ρ)
    | _ => none
  | .popAt t i k, ρ => match ownD ρ i with
    | some (.list xs) => match ev cal k false ρ with
      | some (_, .int j) => if xs.length ≤ lim then match ixN xs.length j with
        | none => none
        | some m => match xs[m]? with
          | none => none
          | some z => (setT t true z (ρ.set i (some (true, .list (xs.eraseIdx m))))).map fun ρ => (.next, ρ)
        else none
      | _ => none
    | _ => none
  | .popLc t tp i k tg src own, ρ => match evi cal src ρ with
    | some (true, ds) => match ownD ρ i with
      | some (.list xs) => if fzs ds ∧ fzs xs ∧ ds.length ≤ lim ∧ xs.length ≤ lim ∧ i ∉ own then match popL i (fun d ρ => setT tg false d ρ) (fun ρ => ev cal k false ρ) (fun ρ => wipeE ρ own) ρ ds xs with
        | none => none
        | some (zs, xs') => (setT (.n t) true (if tp then .tuple zs else .list zs) (ρ.set i (some (true, .list xs')))).map fun ρ => (.next, ρ)
        else none
      | _ => none
    | _ => none
  | .rem i e, ρ => match ownD ρ i with
    | some (.list xs) => match ev cal e false ρ with
      | some (_, .int k) => match intsD xs with
        | some ns => if k ∈ ns then some (.next, ρ.set i (some (true, .list ((ns.erase k).map .int)))) else none
        | none => none
      | _ => none
    | _ => none
  | .ret e, ρ => match ev cal e false ρ with
    | none => none
    | some (b, d) => some (.ret b d, ρ)
  | .retV i, ρ => match getD? ρ i with
    | none => none
    | some (b, d) => some (.ret (b || fz d) d, ρ)
  | .ife c a b, ρ => match ev cal c true ρ with
    | some (_, .bool true) => exs a ρ
    | some (_, .bool false) => exs b ρ
    | _ => none
  | .fore t src b, ρ => match evi cal src ρ with
    | none => none
    | some (f, ds) => forD (fun d ρ => setT t false d ρ) (fun ρ => exs b ρ) ds (if f then ρ else shareL (vnI src) ρ)
  | .ford t i b, ρ => match keysAt i ρ with
    | none => none
    | some ds => forD (fun d ρ => setT t false d ρ) (fun ρ => exs b ρ) ds (shareE (some i) ρ)
  | .whil c b, ρ => whD (fun ρ => ev cal c true ρ) (fun ρ => exs b ρ) fu ρ
  | .brk, ρ => some (.brk, ρ)
  | .cnt, ρ => some (.cont, ρ)
  | .nop, ρ => some (.next, ρ)
def exs : Ss → Ev → Option (Fl × Ev)
  | .nil, ρ => some (.next, ρ)
  | .cons s r, ρ => match exS s ρ with
    | none => none
    | some (.next, ρ') => exs r ρ'
    | some (.brk, ρ') => some (.brk, ρ')
    | some (.cont, ρ') => some (.cont, ρ')
    | some (.ret b d, ρ') => some (.ret b d, ρ')
end
end

/-! ### a program -/
structure Fn where
  np : Nat
  ns : Nat
  body : Ss
def callD (fns : List Fn) (fu : Nat) : Nat → Nat → List (Bool × D) → Option (Bool × D)
  | 0, _, _ => none
  | k + 1, f, as => match fns[f]? with
    | none => none
    | some fn => if as.length = fn.np ∧ fn.np ≤ fn.ns then match exs (callD fns fu k) fu fn.body (as.map some ++ List.replicate (fn.ns - fn.np) none) with
      | some (.ret b d, _) => some (b, d)
      | some (.next, _) => some (true, .none)
      | _ => none
      else none
end Den

set_option Elab.async false
set_option linter.all false
set_option maxRecDepth 100000
/-! DenB: what a value of the layer stands for; what an expression's reading is. -/
namespace Den
open PySem PySem.Spec PyProof.Rows L2

/-- what stood, stands on; a table of code objects may have grown -/
def KeptAs : HO → Option HO → Prop
  | .tbl ps, x => ∃ qs, x = some (.tbl qs) ∧ (TriplesOk ps.toList → TriplesOk qs.toList)
  | o, x => x = some o
theorem KeptAs.of : ∀ {o : HO} {x : Option HO}, x = some o → KeptAs o x
  | .tbl ps, _, h => ⟨ps, h, id⟩
  | .lst _, _, h | .tup _, _, h | .dK _, _, h | .dT _, _, h | .set _ _, _, h | .ins _ _ _, _, h | .own _, _, h | .xd _, _, h | .met _ _, _, h => h
  | o, _, h => by cases o <;> first | exact h | exact ⟨_, h, id⟩
theorem KeptAs.eq {o : HO} {x : Option HO} (h : KeptAs o x) (n : ∀ ps, o ≠ .tbl ps) : x = some o := by
  cases o <;> first | exact h | exact absurd rfl (n _)
theorem KeptAs.ne {o : HO} {x : Option HO} (h : KeptAs o x) : x ≠ none := by
  cases o <;> first | (rw [show x = _ from h]; exact fun z => nomatch z) | (obtain ⟨qs, e, _⟩ := (h : ∃ qs, x = some (.tbl qs) ∧ _); rw [e]; exact fun z => nomatch z)
theorem KeptAs.trans {o : HO} {x y : Option HO} (h : KeptAs o x) (k : ∀ o', x = some o' → KeptAs o' y) : KeptAs o y := by
  cases o <;> first
    | exact k _ h
    | (obtain ⟨qs, e, t⟩ := (h : ∃ qs, x = some (.tbl qs) ∧ _)
       obtain ⟨rs, e2, t2⟩ := k _ e
       exact ⟨rs, e2, fun z => t2 (t z)⟩)
/-- all that was tracked is as it was, but for tables that have grown -/
def Same (H H' : Hp) : Prop := ∀ a o, H a = some o → KeptAs o (H' a)
theorem Same.refl (H : Hp) : Same H H := fun _ _ h => .of h
theorem Same.trans {H H1 H2 : Hp} (a : Same H H1) (b : Same H1 H2) : Same H H2 := fun c o h => (a c o h).trans fun o' h' => b c o' h'
theorem Same.free {H H' : Hp} (e : Same H H') {l : Addr} (h : H' l = Option.none) : H l = Option.none := by
  cases q : H l with
  | none => rfl
  | some o => exact absurd h (e l o q).ne
theorem Same.at {H H' : Hp} (s : Same H H') {a : Addr} {o : HO} (h : H a = some o) (n : ∀ ps, o ≠ .tbl ps) : H' a = some o := (s a o h).eq n
theorem Same.of {H H' : Hp} (s : L2.Same H H') : Same H H' := fun a o h => .of (s a o h)
theorem Same.seq {K : PySem.W.Frag} {H H' : Hp} {a : Addr} {xs : List V} (e : Same H H') (h : SqL K H a xs) : SqL K H' a xs := by
  rcases h with (h | ⟨o, h⟩) | h
  · exact .inl (.inl (e _ _ h))
  · exact .inl (.inr ⟨o, e _ _ h⟩)
  · exact .inr h
/-- the tables of the defs' code objects stand -/
def Tbs (K : PySem.W.Frag) (H : Hp) : Prop := ∀ c P, PySem.W.codeHdIn K c P = true → K.lookup P = none → GxR.TabG H P
theorem Tbs.same {K : PySem.W.Frag} {H H' : Hp} (t : Tbs K H) (s : Same H H') : Tbs K H' := fun c P h n => by
  obtain ⟨ps, e, ok⟩ := t c P h n
  obtain ⟨qs, e2, ok2⟩ := s P _ e
  exact ⟨qs, e2, ok2 ok⟩

def kD : Key → D
  | .inl i => .int i
  | .inr x => .str x
def tD (ks : List Key) : D := .tuple (ks.map kD)
def LstAt (H : Hp) : Bool → Addr → List V → Prop
  | true, a, xs => H a = some (.lst xs)
  | false, a, xs => Rd H a (.lst xs)
def DkAt (H : Hp) : Bool → Addr → List (Key × V) → Prop
  | true, a, kvs => H a = some (.dK kvs)
  | false, a, kvs => Rd H a (.dK kvs)
def DtAt (H : Hp) : Bool → Addr → List (List Key × V) → Prop
  | true, a, kvs => H a = some (.dT kvs)
  | false, a, kvs => Rd H a (.dT kvs)

/-- the script: locked, or an object of the module -/
def ScrAt (K : PySem.W.Frag) (H : Hp) (a : Addr) (xs : List V) : Prop := (∃ o, H a = some (.frz o (.lst xs))) ∨
  ∃ (o : Obj) (its : Array Value) (n : Nat), K.lookup a = some o ∧ o.cls = .type "list" ∧ o.dict = none ∧ o.data = .seq its n ∧ its.size ≤ sizeLine ∧ Vals xs its.toList
theorem ScrAt.sq {K : PySem.W.Frag} {H : Hp} {a : Addr} {xs : List V} (h : ScrAt K H a xs) : SqL K H a xs := h.imp .inr id
/-- a list's or a tuple's object -/
def lt : List V ⊕ List V → HO
  | .inl xs => .lst xs
  | .inr xs => .tup xs
section
variable (K : PySem.W.Frag) (H : Hp)
mutual
/-- v stands for d; its lists and dicts stand at fs; b: they may be written -/
inductive Rep : Bool → V → D → List Addr → Prop
  | non {b : Bool} : Rep b .non .none []
  | bl {b : Bool} (c : Bool) : Rep b (.bl c) (.bool c) []
  | int {b : Bool} (i : Int) : Rep b (.int i) (.int i) []
  | str {b : Bool} (x : Str) : Rep b (.str x) (.str x) []
  | tup {b : Bool} {a : Addr} {xs : List V} {ds : List D} {fs : List Addr} : H a = some (.tup xs) → Reps b xs ds fs → Rep b (.ref a) (.tuple ds) fs
  | lst {b : Bool} {a : Addr} {xs : List V} {ds : List D} {fs : List Addr} : LstAt H b a xs → Reps b xs ds fs → Rep b (.ref a) (.list ds) (a :: fs)
  | scr {b : Bool} {a : Addr} {ns : List Int} {d : D} : d = scrD ns → ScrAt K H a (ns.map V.int) → Rep b (.ref a) d []
  | box {b : Bool} {a : Addr} {o : Obj} {ns : List Int} {d : D} : d = boxD ns → H a = some (.frz o (.tup (ns.map V.int))) → o.dict = none → Rep b (.ref a) d []
  | dic {b : Bool} {a : Addr} {kvs : List (Key × V)} {ds : List (D × D)} {fs : List Addr} : DkAt H b a kvs → kvs.map (fun p => kD p.1) = ds.map (·.1) → Reps b (kvs.map (·.2)) (ds.map (·.2)) fs → Rep b (.ref a) (.dict ds) (a :: fs)
  | dit {b : Bool} {a : Addr} {kvs : List (List Key × V)} {ds : List (D × D)} {fs : List Addr} : DtAt H b a kvs → kvs.map (fun p => tD p.1) = ds.map (·.1) → Reps b (kvs.map (·.2)) (ds.map (·.2)) fs → Rep b (.ref a) (.dict ((.none, .none) :: ds)) (a :: fs)
inductive Reps : Bool → List V → List D → List Addr → Prop
  | nil {b : Bool} : Reps b [] [] []
  | cons {b : Bool} {v : V} {vs : List V} {d : D} {ds : List D} {f fs : List Addr} : Rep b v d f → Reps b vs ds fs → Reps b (v :: vs) (d :: ds) (f ++ fs)
end
end

section
variable {K : PySem.W.Frag} {H H' : Hp}
theorem LstAt.rd : ∀ {b : Bool} {a : Addr} {xs : List V}, LstAt H b a xs → Rd H a (.lst xs)
  | true, _, _, h => .inl h
  | false, _, _, h => h
theorem DkAt.rd : ∀ {b : Bool} {a : Addr} {xs : List (Key × V)}, DkAt H b a xs → Rd H a (.dK xs)
  | true, _, _, h => .inl h
  | false, _, _, h => h
theorem DtAt.rd : ∀ {b : Bool} {a : Addr} {xs : List (List Key × V)}, DtAt H b a xs → Rd H a (.dT xs)
  | true, _, _, h => .inl h
  | false, _, _, h => h
theorem Rd.keep {a : Addr} {u : HO} (h : Rd H a u) (n : ∀ ps, u ≠ .tbl ps) (k : ∀ o, H a = some o → KeptAs o (H' a)) : Rd H' a u := by
  rcases h with h | ⟨o, h⟩
  · exact .inl ((k _ h).eq n)
  · exact .inr ⟨o, k _ h⟩
theorem LstAt.keep {a : Addr} (k : ∀ o, H a = some o → KeptAs o (H' a)) : ∀ {b : Bool} {xs : List V}, LstAt H b a xs → LstAt H' b a xs
  | true, _, h => k _ h
  | false, _, h => Rd.keep h (fun _ z => nomatch z) k
theorem DkAt.keep {a : Addr} (k : ∀ o, H a = some o → KeptAs o (H' a)) : ∀ {b : Bool} {xs : List (Key × V)}, DkAt H b a xs → DkAt H' b a xs
  | true, _, h => k _ h
  | false, _, h => Rd.keep h (fun _ z => nomatch z) k
theorem DtAt.keep {a : Addr} (k : ∀ o, H a = some o → KeptAs o (H' a)) : ∀ {b : Bool} {xs : List (List Key × V)}, DtAt H b a xs → DtAt H' b a xs
  | true, _, h => k _ h
  | false, _, h => Rd.keep h (fun _ z => nomatch z) k
theorem Rd.some {a : Addr} {u : HO} (h : Rd H a u) : H a ≠ none := by
  rcases h with h | ⟨o, h⟩ <;> rw [h] <;> exact fun z => nomatch z

mutual
/-- what stands, stands on -/
theorem Rep.keep {b : Bool} (ht : ∀ a xs, H a = Option.some (.tup xs) → H' a = Option.some (.tup xs)) (hz : ∀ a o xs, H a = Option.some (.frz o (lt xs)) → H' a = Option.some (.frz o (lt xs))) : ∀ {v : V} {d : D} {f : List Addr}, (∀ a ∈ f, ∀ o, H a = Option.some o → KeptAs o (H' a)) → Rep K H b v d f → Rep K H' b v d f
  | _, _, _, _, .non => .non
  | _, _, _, _, .bl c => .bl c
  | _, _, _, _, .int i => .int i
  | _, _, _, _, .str x => .str x
  | _, _, _, k, .tup h r => .tup (ht _ _ h) (Reps.keep ht hz k r)
  | _, _, _, k, .lst h r => .lst (LstAt.keep (k _ List.mem_cons_self) h) (Reps.keep ht hz (fun a m => k a (List.mem_cons_of_mem _ m)) r)
  | _, _, _, k, .scr e h => .scr e (h.imp (fun ⟨o, q⟩ => ⟨o, hz _ _ (.inl _) q⟩) id)
  | _, _, _, k, .box e h n => .box e (hz _ _ (.inr _) h) n
  | _, _, _, k, .dic h e r => .dic (DkAt.keep (k _ List.mem_cons_self) h) e (Reps.keep ht hz (fun a m => k a (List.mem_cons_of_mem _ m)) r)
  | _, _, _, k, .dit h e r => .dit (DtAt.keep (k _ List.mem_cons_self) h) e (Reps.keep ht hz (fun a m => k a (List.mem_cons_of_mem _ m)) r)
theorem Reps.keep {b : Bool} (ht : ∀ a xs, H a = Option.some (.tup xs) → H' a = Option.some (.tup xs)) (hz : ∀ a o xs, H a = Option.some (.frz o (lt xs)) → H' a = Option.some (.frz o (lt xs))) : ∀ {v : List V} {d : List D} {f : List Addr}, (∀ a ∈ f, ∀ o, H a = Option.some o → KeptAs o (H' a)) → Reps K H b v d f → Reps K H' b v d f
  | _, _, _, _, .nil => .nil
  | _, _, _, k, .cons r rs => .cons (Rep.keep ht hz (fun a m => k a (List.mem_append_left _ m)) r) (Reps.keep ht hz (fun a m => k a (List.mem_append_right _ m)) rs)
end
theorem Rep.same {b : Bool} {v : V} {d : D} {f : List Addr} (s : Same H H') (r : Rep K H b v d f) : Rep K H' b v d f := r.keep (fun a xs h => s a _ h) (fun a o xs h => s a _ h) fun a _ o h => s a o h
theorem Reps.same {b : Bool} {v : List V} {d : List D} {f : List Addr} (s : Same H H') (r : Reps K H b v d f) : Reps K H' b v d f := r.keep (fun a xs h => s a _ h) (fun a o xs h => s a _ h) fun a _ o h => s a o h

mutual
theorem Rep.trk {b : Bool} : ∀ {v : V} {d : D} {f : List Addr}, Rep K H b v d f → ∀ a ∈ f, H a ≠ none
  | _, _, _, .non, _, m => nomatch m
  | _, _, _, .bl _, _, m => nomatch m
  | _, _, _, .int _, _, m => nomatch m
  | _, _, _, .str _, _, m => nomatch m
  | _, _, _, .tup h r, a, m => Reps.trk r a m
  | _, _, _, .lst h r, a, m => (List.mem_cons.mp m).elim (fun e => e ▸ Rd.some h.rd) (Reps.trk r a)
  | _, _, _, .scr _ _, _, m => nomatch m
  | _, _, _, .box _ _ _, _, m => nomatch m
  | _, _, _, .dic h e r, a, m => (List.mem_cons.mp m).elim (fun e => e ▸ Rd.some h.rd) (Reps.trk r a)
  | _, _, _, .dit h e r, a, m => (List.mem_cons.mp m).elim (fun e => e ▸ Rd.some h.rd) (Reps.trk r a)
theorem Reps.trk {b : Bool} : ∀ {v : List V} {d : List D} {f : List Addr}, Reps K H b v d f → ∀ a ∈ f, H a ≠ none
  | _, _, _, .nil, _, m => nomatch m
  | _, _, _, .cons r rs, a, m => (List.mem_append.mp m).elim (Rep.trk r a) (Reps.trk rs a)
end

mutual
/-- only read from now on -/
theorem Rep.sh {b : Bool} : ∀ {v : V} {d : D} {f : List Addr}, Rep K H b v d f → Rep K H false v d f
  | _, _, _, .non => .non
  | _, _, _, .bl c => .bl c
  | _, _, _, .int i => .int i
  | _, _, _, .str x => .str x
  | _, _, _, .tup h r => .tup h (Reps.sh r)
  | _, _, _, .lst h r => .lst (b := false) h.rd (Reps.sh r)
  | _, _, _, .scr e h => .scr e h
  | _, _, _, .box e h n => .box e h n
  | _, _, _, .dic h e r => .dic (b := false) h.rd e (Reps.sh r)
  | _, _, _, .dit h e r => .dit (b := false) h.rd e (Reps.sh r)
theorem Reps.sh {b : Bool} : ∀ {v : List V} {d : List D} {f : List Addr}, Reps K H b v d f → Reps K H false v d f
  | _, _, _, .nil => .nil
  | _, _, _, .cons r rs => .cons (Rep.sh r) (Reps.sh rs)
end

theorem bx_is {kvs : List (D × D)} (h : bxB kvs = true) : ∃ xs, kvs = [(.none, .tuple xs)] ∧ xs.all isI = true := by
  unfold bxB at h
  split at h
  · exact ⟨_, rfl, h⟩
  · cases h
mutual
/-- frozen data have no lists; they may be called either way -/
theorem Rep.fz {b : Bool} : ∀ {v : V} {d : D} {f : List Addr}, Rep K H b v d f → fz d = true → f = [] ∧ ∀ b', Rep K H b' v d []
  | _, _, _, .non, _ => ⟨rfl, fun _ => .non⟩
  | _, _, _, .bl c, _ => ⟨rfl, fun _ => .bl c⟩
  | _, _, _, .int i, _ => ⟨rfl, fun _ => .int i⟩
  | _, _, _, .str x, _ => ⟨rfl, fun _ => .str x⟩
  | _, _, _, .tup h r, e => by
    obtain ⟨e1, e2⟩ := Reps.fz r (by simpa [Den.fz] using e)
    exact ⟨e1, fun b' => .tup h (e2 b')⟩
  | _, _, _, .lst h r, e => by simp [Den.fz] at e
  | _, _, _, .scr e1 _, e => by subst e1; simp [Den.fz, scrD, bxB] at e
  | _, _, _, .box e h n, _ => ⟨rfl, fun _ => .box e h n⟩
  | _, _, _, .dic (kvs := κ) (ds := δ) h q r, e => by
    rw [Den.fz] at e
    obtain ⟨xs, rfl, _⟩ := bx_is e
    cases κ with
    | nil => simp at q
    | cons p t =>
      simp only [List.map_cons, List.map_nil, List.cons.injEq] at q
      have := q.1
      cases hp : p.1 <;> rw [hp] at this <;> cases this
  | _, _, _, .dit (ds := δ) h _ r, e => by
    rw [Den.fz] at e
    obtain ⟨xs, z, _⟩ := bx_is e
    cases δ <;> simp at z
theorem Reps.fz {b : Bool} : ∀ {v : List V} {d : List D} {f : List Addr}, Reps K H b v d f → fzs d = true → f = [] ∧ ∀ b', Reps K H b' v d []
  | _, _, _, .nil, _ => ⟨rfl, fun _ => .nil⟩
  | _, _, _, .cons r rs, e => by
    have e' := Bool.and_eq_true_iff.mp (show (Den.fz _ && fzs _) = true from e)
    obtain ⟨h1, h2⟩ := Rep.fz r e'.1
    obtain ⟨h3, h4⟩ := Reps.fz rs e'.2
    refine ⟨by rw [h1, h3]; rfl, fun b' => ?_⟩
    exact Reps.cons (f := []) (fs := []) (h2 b') (h4 b')
end

theorem Reps.length {b : Bool} : ∀ {v : List V} {d : List D} {f : List Addr}, Reps K H b v d f → v.length = d.length
  | _, _, _, .nil => rfl
  | _, _, _, .cons _ rs => congrArg (· + 1) rs.length
theorem Reps.get {b : Bool} : ∀ {vs : List V} {ds : List D} {f : List Addr} {i : Nat} {d : D}, Reps K H b vs ds f → ds[i]? = some d → ∃ v g, vs[i]? = some v ∧ Rep K H b v d g ∧ ∀ a ∈ g, a ∈ f
  | _, _, _, 0, _, .cons r _, e => by
    simp at e; subst e
    exact ⟨_, _, rfl, r, fun a m => List.mem_append_left _ m⟩
  | _, _, _, i + 1, _, .cons _ rs, e => by
    obtain ⟨v, g, h1, h2, h3⟩ := rs.get (i := i) (by simpa using e)
    exact ⟨v, g, by simpa using h1, h2, fun a m => List.mem_append_right _ (h3 a m)⟩
theorem Reps.nodupGet {b : Bool} : ∀ {vs : List V} {ds : List D} {f : List Addr} {i : Nat} {d : D}, Reps K H b vs ds f → f.Nodup → ds[i]? = some d → ∃ v g, vs[i]? = some v ∧ Rep K H b v d g ∧ g.Nodup ∧ ∀ a ∈ g, a ∈ f
  | _, _, _, 0, _, .cons r _, n, e => by
    simp at e; subst e
    exact ⟨_, _, rfl, r, (List.nodup_append.mp n).1, fun a m => List.mem_append_left _ m⟩
  | _, _, _, i + 1, _, .cons _ rs, n, e => by
    obtain ⟨v, g, h1, h2, h3, h4⟩ := rs.nodupGet (i := i) (List.nodup_append.mp n).2.1 (by simpa using e)
    exact ⟨v, g, by simpa using h1, h2, h3, fun a m => List.mem_append_right _ (h4 a m)⟩
theorem Reps.getV {b : Bool} {vs : List V} {ds : List D} {f : List Addr} {i : Nat} {v : V} (r : Reps K H b vs ds f) (e : vs[i]? = some v) : ∃ d g, ds[i]? = some d ∧ Rep K H b v d g ∧ ∀ a ∈ g, a ∈ f := by
  have h : i < ds.length := by rw [← r.length]; exact (List.getElem?_eq_some_iff.mp e).1
  obtain ⟨v', g, h1, h2, h3⟩ := r.get (List.getElem?_eq_getElem h)
  rw [e] at h1; cases h1
  exact ⟨_, g, List.getElem?_eq_getElem h, h2, h3⟩
theorem Reps.append {b : Bool} : ∀ {vs ws : List V} {ds es : List D} {f g : List Addr}, Reps K H b vs ds f → Reps K H b ws es g → Reps K H b (vs ++ ws) (ds ++ es) (f ++ g)
  | _, _, _, _, _, _, .nil, h => h
  | _, _, _, _, _, _, .cons r rs, h => by
    rw [List.append_assoc]
    exact .cons r (rs.append h)
theorem Reps.one {b : Bool} {v : V} {d : D} {f : List Addr} (r : Rep K H b v d f) : Reps K H b [v] [d] f := by
  have := Reps.cons r (Reps.nil (K := K) (H := H) (b := b))
  rwa [List.append_nil] at this
theorem Reps.take {b : Bool} : ∀ {vs : List V} {ds : List D} {f : List Addr} (n : Nat), Reps K H b vs ds f → ∃ g, Reps K H b (vs.take n) (ds.take n) g ∧ List.Sublist g f
  | _, _, _, 0, _ => ⟨[], .nil, List.nil_sublist _⟩
  | _, _, _, _ + 1, .nil => ⟨[], .nil, List.nil_sublist _⟩
  | _, _, _, n + 1, .cons r rs => by
    obtain ⟨g, h1, h2⟩ := rs.take n
    exact ⟨_, .cons r h1, List.Sublist.append (List.Sublist.refl _) h2⟩
theorem Reps.drop {b : Bool} : ∀ {vs : List V} {ds : List D} {f : List Addr} (n : Nat), Reps K H b vs ds f → ∃ g, Reps K H b (vs.drop n) (ds.drop n) g ∧ List.Sublist g f
  | _, _, f, 0, r => ⟨f, r, List.Sublist.refl _⟩
  | _, _, _, _ + 1, .nil => ⟨[], .nil, List.nil_sublist _⟩
  | _, _, _, n + 1, .cons r rs => by
    obtain ⟨g, h1, h2⟩ := rs.drop n
    exact ⟨g, h1, h2.trans (List.sublist_append_right _ _)⟩

/-! ### names -/
structure EnvR (K : PySem.W.Frag) (H : Hp) (σ : L2.St) (ρ : Ev) (φ : List (List Addr)) : Prop where
  l1 : σ.length = ρ.length
  l2 : φ.length = ρ.length
  at_ : ∀ (i : Nat) b d, ρ[i]? = some (some (b, d)) → ∃ v f, σ[i]? = some (some v) ∧ φ[i]? = some f ∧ Rep K H b v d f
  tr : ∀ f ∈ φ, ∀ a ∈ f, H a ≠ none
  tb : Tbs K H
theorem EnvR.same {σ : L2.St} {ρ : Ev} {φ : List (List Addr)} (s : Same H H') (r : EnvR K H σ ρ φ) : EnvR K H' σ ρ φ :=
  ⟨r.l1, r.l2, fun i b d e => let ⟨v, f, h1, h2, h3⟩ := r.at_ i b d e; ⟨v, f, h1, h2, h3.same s⟩, fun f hf a ha z => r.tr f hf a ha (s.free z), r.tb.same s⟩
theorem EnvR.set {σ : L2.St} {ρ : Ev} {φ : List (List Addr)} {b : Bool} {v : V} {d : D} {f : List Addr} (r : EnvR K H σ ρ φ) (i : Nat) (h : Rep K H b v d f) : EnvR K H (σ.set i (some v)) (ρ.set i (some (b, d))) (φ.set i f) := by
  refine ⟨by simp [r.l1], by simp [r.l2], fun j b' d' e => ?_, fun f' hf a ha => ?_, r.tb⟩
  rotate_left
  · rcases List.mem_or_eq_of_mem_set hf with z | z
    · exact r.tr f' z a ha
    · subst z; exact h.trk a ha
  by_cases hj : i = j
  · subst hj
    have hi : i < ρ.length := by
      rcases Nat.lt_or_ge i ρ.length with z | z
      · exact z
      · rw [List.getElem?_eq_none (by simpa using z)] at e; cases e
    rw [List.getElem?_set_self hi] at e
    simp only [Option.some.injEq, Prod.mk.injEq] at e
    obtain ⟨rfl, rfl⟩ := e
    exact ⟨v, f, List.getElem?_set_self (by rw [r.l1]; exact hi), List.getElem?_set_self (by rw [r.l2]; exact hi), h⟩
  · rw [List.getElem?_set_ne hj] at e ⊢
    rw [List.getElem?_set_ne hj]
    exact r.at_ j b' d' e
theorem EnvR.unset {σ : L2.St} {ρ : Ev} {φ : List (List Addr)} (r : EnvR K H σ ρ φ) (i : Nat) (o : Option V) : EnvR K H (σ.set i o) (ρ.set i none) φ := by
  refine ⟨by simp [r.l1], by simp [r.l2], fun j b' d' e => ?_, r.tr, r.tb⟩
  by_cases hj : i = j
  · subst hj
    have hi : i < ρ.length := by
      rcases Nat.lt_or_ge i ρ.length with z | z
      · exact z
      · rw [List.getElem?_eq_none (by simpa using z)] at e; cases e
    rw [List.getElem?_set_self hi] at e
    cases e
  · rw [List.getElem?_set_ne hj] at e ⊢
    exact r.at_ j b' d' e
theorem EnvR.wipe {σ : L2.St} {ρ : Ev} {φ : List (List Addr)} (r : EnvR K H σ ρ φ) : ∀ vs : List Nat, EnvR K H (wipe σ vs) (wipeE ρ vs) φ
  | [] => r
  | v :: vs => (EnvR.wipe r vs).unset v none

/-- what an expression has given -/
structure Got (K : PySem.W.Frag) (H H' : Hp) (φ : List (List Addr)) (b : Bool) (v : V) (d : D) (g : List Addr) : Prop where
  same : Same H H'
  rep : Rep K H' b v d g
  fr : b = true → g.Nodup ∧ ∀ a ∈ g, H a = none
  al : ∀ a ∈ g, H a = none ∨ ∃ f ∈ φ, a ∈ f
theorem Got.froz {φ : List (List Addr)} {b b' : Bool} {v : V} {d : D} {g : List Addr} (h : fz d = true) (s : Same H H') (r : Rep K H' b v d g) : Got K H H' φ b' v d [] :=
  ⟨s, (r.fz h).2 b', fun _ => ⟨List.nodup_nil, fun a m => nomatch m⟩, fun a m => nomatch m⟩
theorem Got.scalar {φ : List (List Addr)} {b : Bool} {v : V} {d : D} (s : Same H H') (r : Rep K H' b v d []) : Got K H H' φ b v d [] :=
  ⟨s, r, fun _ => ⟨List.nodup_nil, fun a m => nomatch m⟩, fun a m => nomatch m⟩
end

section
variable (K : PySem.W.Frag)
/-- the reading: f yields, and what is wanted holds of every value that stands for it -/
def tQ (f : Ev → Option (Bool × D)) : TE := fun σ H Q => ∃ ρ φ b d, EnvR K H σ ρ φ ∧ f ρ = some (b, d) ∧ ∀ v H' g, Got K H H' φ b v d g → Q v H'
def tT (f : Ev → Option (Bool × D)) : TT := fun σ H Q => ∃ ρ φ b c, EnvR K H σ ρ φ ∧ f ρ = some (b, .bool c) ∧ ∀ H', Same H H' → Q c H'
end
def QE (X : Cx) (e : Expr) (f : Ev → Option (Bool × D)) : Prop := PE X e (tQ X.K f)
def QT (X : Cx) (e : Expr) (f : Ev → Option (Bool × D)) : Prop := PT X e (tT X.K f)

theorem pe_imp {X : Cx} {e : Expr} {t t' : TE} (h : PE X e t) (w : ∀ σ H Q, t' σ H Q → t σ H Q) : PE X e t' := ⟨fun pins s σ H Q I q => h.run pins s σ H Q I (w σ H Q q)⟩
theorem pt_imp {X : Cx} {e : Expr} {t t' : TT} (h : PT X e t) (w : ∀ σ H Q, t' σ H Q → t σ H Q) : PT X e t' := ⟨fun pins s σ H Q I q => h.run pins s σ H Q I (w σ H Q q)⟩
theorem pw_imp {X : Cx} {e : Expr} {t t' : TT} (h : PW X e t) (w : ∀ σ H Q, t' σ H Q → t σ H Q) : PW X e t' := ⟨fun wh pins s σ H Q I q => h.run wh pins s σ H Q I (w σ H Q q)⟩

/-! ### the cases of expressions -/
section
variable {X : Cx} {a b c e : Expr} {fa fb fc : Ev → Option (Bool × D)} {pos : Pos}
theorem q_v (i : Nat) {x : Str} (h : PE X (.Name x pos) (tVar i)) : QE X (.Name x pos) (fun ρ => (getD? ρ i).map fun p => (fz p.2, p.2)) := by
  refine pe_imp h fun σ H Q ⟨ρ, φ, b, d, R, e, q⟩ => ?_
  simp only [getD?] at e
  split at e
  · rename_i p hp
    obtain ⟨b', d'⟩ := p
    simp only [Option.map_some, Option.some.injEq, Prod.mk.injEq] at e
    obtain ⟨rfl, rfl⟩ := e
    obtain ⟨v, f, h1, h2, h3⟩ := R.at_ _ _ _ hp
    refine ⟨v, h1, q v H (if fz d' then [] else f) ?_⟩
    by_cases hz : fz d' = true
    · rw [if_pos hz, hz]; exact Got.froz hz (Same.refl _) h3
    · rw [if_neg hz]
      have hz' : fz d' = false := by simpa using hz
      rw [hz']
      exact ⟨Same.refl _, h3.sh, (fun z => nomatch z), fun a m => .inr ⟨f, List.mem_of_getElem? h2, m⟩⟩
  · simp at e
theorem q_k {v : V} {d : D} (h : PE X e (tC v)) (hd : ∀ b H, Rep X.K H b v d []) : QE X e (fun _ => some (true, d)) := by
  refine pe_imp h fun σ H Q ⟨ρ, φ, b, d', R, e, q⟩ => ?_
  cases e
  exact q v H [] (Got.scalar (Same.refl _) (hd _ _))
end
end Den

set_option Elab.async false
set_option linter.all false
set_option maxRecDepth 100000
/-! DenC: operators on values that stand for data. -/
namespace Den
open PySem PySem.Spec PyProof.Rows L2
section
variable {K : PySem.W.Frag} {H H' : Hp} {b : Bool} {v : V} {f : List Addr}
theorem Rep.i {i : Int} (h : Rep K H b v (.int i) f) : v = .int i ∧ f = [] := by
  cases h with
  | int => exact ⟨rfl, rfl⟩
  | scr e _ => simp [scrD] at e
  | box e _ _ => simp [boxD] at e
theorem Rep.s {x : Str} (h : Rep K H b v (.str x) f) : v = .str x ∧ f = [] := by
  cases h with
  | str => exact ⟨rfl, rfl⟩
  | scr e _ => simp [scrD] at e
  | box e _ _ => simp [boxD] at e
theorem Rep.bo {x : Bool} (h : Rep K H b v (.bool x) f) : v = .bl x ∧ f = [] := by
  cases h with
  | bl => exact ⟨rfl, rfl⟩
  | scr e _ => simp [scrD] at e
  | box e _ _ => simp [boxD] at e
theorem Rep.no (h : Rep K H b v .none f) : v = .non ∧ f = [] := by
  cases h with
  | non => exact ⟨rfl, rfl⟩
  | scr e _ => simp [scrD] at e
  | box e _ _ => simp [boxD] at e
theorem Rep.t {ds : List D} (h : Rep K H b v (.tuple ds) f) : ∃ a xs, v = .ref a ∧ H a = some (.tup xs) ∧ Reps K H b xs ds f := by
  cases h with
  | tup h r => exact ⟨_, _, rfl, h, r⟩
  | scr e _ => simp [scrD] at e
  | box e _ _ => simp [boxD] at e
theorem Rep.l {ds : List D} (h : Rep K H b v (.list ds) f) : ∃ a xs fs, v = .ref a ∧ LstAt H b a xs ∧ Reps K H b xs ds fs ∧ f = a :: fs := by
  cases h with
  | lst h r => exact ⟨_, _, _, rfl, h, r, rfl⟩
  | scr e _ => simp [scrD] at e
  | box e _ _ => simp [boxD] at e
theorem intsD_map : ∀ ns : List Int, intsD (ns.map .int) = some ns
  | [] => rfl
  | n :: r => by
    show (intsD (r.map .int)).map (n :: ·) = _
    rw [intsD_map r]; rfl
theorem intsD_some : ∀ {xs : List D} {ns : List Int}, intsD xs = some ns → xs = ns.map .int
  | [], _, h => by cases h; rfl
  | x :: r, ns, h => by
    cases x with
    | int i =>
      have h' : (intsD r).map (i :: ·) = some ns := h
      obtain ⟨m, h1, rfl⟩ := Option.map_eq_some_iff.mp h'
      rw [intsD_some h1]; rfl
    | _ => exact nomatch h
theorem scrOf_scr (ns : List Int) : scrOf [(.none, .list (ns.map .int))] = some ns := intsD_map ns
theorem isI_map (ns : List Int) : (ns.map PyData.int).all isI = true := by
  rw [List.all_map]
  exact List.all_eq_true.mpr fun _ _ => rfl
theorem scrOf_box (ns : List Int) : scrOf [(.none, .tuple (ns.map .int))] = some [] := by
  show (if (ns.map PyData.int).all isI = true then some [] else none) = _
  rw [if_pos (isI_map ns)]
theorem boxOf_box (ns : List Int) : boxOf [(.none, .tuple (ns.map .int))] = some ns := intsD_map ns
theorem bxB_box (ns : List Int) : bxB [(.none, .tuple (ns.map .int))] = true := isI_map ns
theorem scrOf_nil {ds : List (D × D)} {ns : List Int} (hs : scrOf ds = some ns) (hb : bxB ds = true) : ns = [] := by
  obtain ⟨xs, rfl, h⟩ := bx_is hb
  have hs' : (if xs.all isI = true then some ([] : List Int) else none) = some ns := hs
  rw [if_pos h] at hs'
  cases hs'
  rfl
theorem kD_ne (k : Key) : kD k ≠ .none := by cases k <;> simp [kD]
theorem Rep.d {ds : List (D × D)} (h : Rep K H b v (.dict ds) f) : (∃ (a : Addr) (ns : List Int), v = .ref a ∧ ds = [(PyData.none, PyData.list (ns.map PyData.int))] ∧ ScrAt K H a (ns.map V.int) ∧ f = []) ∨
    (∃ (a : Addr) (kvs : List (Key × V)) (fs : List Addr), v = .ref a ∧ DkAt H b a kvs ∧ kvs.map (fun p => kD p.1) = ds.map (·.1) ∧ Reps K H b (kvs.map (·.2)) (ds.map (·.2)) fs ∧ f = a :: fs) ∨
    (∃ (a : Addr) (kvs : List (List Key × V)) (es : List (D × D)) (fs : List Addr), v = .ref a ∧ ds = (.none, .none) :: es ∧ DtAt H b a kvs ∧ kvs.map (fun p => tD p.1) = es.map (·.1) ∧ Reps K H b (kvs.map (·.2)) (es.map (·.2)) fs ∧ f = a :: fs) ∨
    (∃ (a : Addr) (o : Obj) (ns : List Int), v = .ref a ∧ ds = [(PyData.none, PyData.tuple (ns.map PyData.int))] ∧ H a = some (.frz o (.tup (ns.map V.int))) ∧ o.dict = none ∧ f = []) := by
  cases h with
  | scr e h => simp only [scrD, PyData.dict.injEq] at e; exact .inl ⟨_, _, rfl, e, h, rfl⟩
  | box e h n => simp only [boxD, PyData.dict.injEq] at e; exact .inr (.inr (.inr ⟨_, _, _, rfl, e, h, n, rfl⟩))
  | dic h e r => exact .inr (.inl ⟨_, _, _, rfl, h, e, r, rfl⟩)
  | dit h e r => exact .inr (.inr (.inl ⟨_, _, _, _, rfl, rfl, h, e, r, rfl⟩))
/-- keys of int and text tell nothing of tuples -/
theorem tk_kD {κ : List Key} {ds : List (D × D)} (e : κ.map kD = ds.map (·.1)) : tk ds = false := by
  cases ds with
  | nil => rfl
  | cons p r =>
    cases κ with
    | nil => simp at e
    | cons k t =>
      simp only [List.map_cons, List.cons.injEq] at e
      obtain ⟨p1, p2⟩ := p
      have e1 : kD k = p1 := e.1
      subst e1
      cases k <;> rfl
/-- a dict that is not the script -/
theorem Rep.dn {ds : List (D × D)} (h : Rep K H b v (.dict ds) f) (hs : scrOf ds = none) :
    (∃ (a : Addr) (kvs : List (Key × V)) (fs : List Addr), v = .ref a ∧ tk ds = false ∧ DkAt H b a kvs ∧ kvs.map (fun p => kD p.1) = ds.map (·.1) ∧ Reps K H b (kvs.map (·.2)) (ds.map (·.2)) fs ∧ f = a :: fs) ∨
    (∃ (a : Addr) (kvs : List (List Key × V)) (es : List (D × D)) (fs : List Addr), v = .ref a ∧ ds = (.none, .none) :: es ∧ DtAt H b a kvs ∧ kvs.map (fun p => tD p.1) = es.map (·.1) ∧ Reps K H b (kvs.map (·.2)) (es.map (·.2)) fs ∧ f = a :: fs) := by
  rcases h.d with ⟨a, ns, _, e, _⟩ | ⟨a, kvs, fs, h1, h2, h3, h4, h5⟩ | h | ⟨a, o, ns, _, e, _⟩
  · subst e; rw [scrOf_scr] at hs; cases hs
  · exact .inl ⟨a, kvs, fs, h1, tk_kD (κ := kvs.map (·.1)) (by rw [List.map_map]; exact h3), h2, h3, h4, h5⟩
  · exact .inr h
  · subst e; rw [scrOf_box] at hs; cases hs
theorem Rep.dscr {ds : List (D × D)} {ns : List Int} (h : Rep K H b v (.dict ds) f) (hs : scrOf ds = some ns) (hb : bxB ds = false) : ∃ a, v = .ref a ∧ ScrAt K H a (ns.map V.int) ∧ f = [] := by
  rcases h.d with ⟨a, ms, hv, e, hsc, hf⟩ | ⟨a, kvs, fs, hv, _, e, _⟩ | ⟨a, kvs, es, fs, hv, e, _⟩ | ⟨a, o, ms, hv, e, _⟩
  · subst e; rw [scrOf_scr] at hs; cases hs
    exact ⟨a, hv, hsc, hf⟩
  · unfold scrOf at hs
    split at hs
    · cases kvs with
      | nil => simp at e
      | cons p r => simp only [List.map_cons, List.cons.injEq] at e; exact absurd e.1 (kD_ne _)
    · cases kvs with
      | nil => simp at e
      | cons p r => simp only [List.map_cons, List.cons.injEq] at e; exact absurd e.1 (kD_ne _)
    · cases hs
  · subst e
    cases es <;> cases hs
  · subst e; rw [bxB_box] at hb; cases hb
end

theorem Reps.none_of {K : PySem.W.Frag} {H : Hp} {b : Bool} {vs : List V} {f : List Addr} (r : Reps K H b vs [] f) : vs = [] ∧ f = [] := by cases r; exact ⟨rfl, rfl⟩

/-! ### data as the layer's own (for ==, in, order) -/
section
variable {K : PySem.W.Frag} {H : Hp}
mutual
theorem Rep.dp {b : Bool} : ∀ {v : V} {d : D} {f : List Addr}, Rep K H b v d f → d.canLay0 = true → Dp K H v d
  | _, _, _, .non, _ => .non
  | _, _, _, .bl c, _ => .bl c
  | _, _, _, .int i, _ => .int i
  | _, _, _, .str x, _ => .str x
  | _, _, _, .tup h r, e => .tup (SqT.of h) (Reps.dp r (by simpa [PyData.canLay0] using e))
  | _, _, _, .lst h r, e => .lst (.inl h.rd) (Reps.dp r (by simpa [PyData.canLay0] using e))
  | _, _, _, .scr e1 _, e => by subst e1; simp [scrD, PyData.canLay0] at e
  | _, _, _, .box e1 _ _, e => by subst e1; simp [boxD, PyData.canLay0] at e
  | _, _, _, .dic _ _ _, e => by simp [PyData.canLay0] at e
  | _, _, _, .dit _ _ _, e => by simp [PyData.canLay0] at e
theorem Reps.dp {b : Bool} : ∀ {v : List V} {d : List D} {f : List Addr}, Reps K H b v d f → PyData.canLayAll0 d = true → DpAll K H v d
  | _, _, _, .nil, _ => .nil
  | _, _, _, .cons r rs, e => by
    have e' := Bool.and_eq_true_iff.mp (show (PyData.canLay0 _ && PyData.canLayAll0 _) = true by simpa [PyData.canLayAll0] using e)
    exact .cons (Rep.dp r e'.1) (Reps.dp rs e'.2)
end
theorem Rep.dps {b : Bool} {v : V} {d : D} {f : List Addr} (r : Rep K H b v d f) (s : SeqAt.shaped d = true) : Dp K H v d := r.dp (SeqAt.canLay_of_shaped s)
end

/-! ### operators -/
def rDat (K : PySem.W.Frag) (f : D → D → Option (Bool × D)) : R2 := fun x y H Q => ∃ p d1 g1 q d2 g2 b d, Rep K H p x d1 g1 ∧ Rep K H q y d2 g2 ∧ f d1 d2 = some (b, d) ∧
  ∀ v H' g, Same H H' → Rep K H' b v d g → (b = true → g.Nodup ∧ ∀ a ∈ g, H a = none) → (∀ a ∈ g, H a = none ∨ a ∈ g1 ∨ a ∈ g2) → Q v H'
def rBl (K : PySem.W.Frag) (f : D → D → Option Bool) : R2 := fun x y H Q => ∃ p d1 g1 q d2 g2 c, Rep K H p x d1 g1 ∧ Rep K H q y d2 g2 ∧ f d1 d2 = some c ∧ Q (.bl c) H

theorem same_new {H : Hp} {p : Addr} {o : HO} (h : H p = none) : Same H (upd H p o) := fun b x e => by
  rw [upd_ne (ne_of_none e h)]; exact .of e
/-- a new tuple -/
theorem Reps.newTup {K : PySem.W.Frag} {H : Hp} {p : Addr} {b : Bool} {xs : List V} {ds : List D} {f : List Addr} (r : Reps K H b xs ds f) (hp : H p = none) : Rep K (upd H p (.tup xs)) b (.ref p) (.tuple ds) f :=
  .tup upd_same (r.same (same_new hp))
theorem Reps.newLst {K : PySem.W.Frag} {H : Hp} {p : Addr} {b : Bool} {xs : List V} {ds : List D} {f : List Addr} (r : Reps K H b xs ds f) (hp : H p = none) : Rep K (upd H p (.lst xs)) b (.ref p) (.list ds) (p :: f) :=
  .lst (b := b) (by cases b <;> first | exact upd_same | exact .inl upd_same) (r.same (same_new hp))

/-- a new tuple of these items (frozen: it is its own, else an alias) -/
theorem fin_tup {K : PySem.W.Frag} {H : Hp} {Q : VK} {G : List Addr} {b : Bool} {xs : List V} {ds : List D} {f : List Addr} (r : Reps K H b xs ds f) (hf : ∀ a ∈ f, a ∈ G)
    (q : ∀ v H' g, Same H H' → Rep K H' (fzs ds) v (.tuple ds) g → (fzs ds = true → g.Nodup ∧ ∀ a ∈ g, H a = none) → (∀ a ∈ g, H a = none ∨ a ∈ G) → Q v H') {p : Addr} (hp : H p = none) : Q (.ref p) (upd H p (.tup xs)) := by
  cases hz : fzs ds with
  | true =>
    rw [hz] at q
    obtain ⟨e, r'⟩ := r.fz hz
    exact q _ _ [] (same_new hp) ((r' true).newTup hp) (fun _ => ⟨List.nodup_nil, fun a m => nomatch m⟩) fun a m => nomatch m
  | false =>
    rw [hz] at q
    exact q _ _ f (same_new hp) (r.sh.newTup hp) (fun z => nomatch z) fun a m => .inr (hf a m)
theorem fin_lst {K : PySem.W.Frag} {H : Hp} {Q : VK} {G : List Addr} {b : Bool} {xs : List V} {ds : List D} {f : List Addr} (r : Reps K H b xs ds f) (hf : ∀ a ∈ f, a ∈ G)
    (q : ∀ v H' g, Same H H' → Rep K H' (fzs ds) v (.list ds) g → (fzs ds = true → g.Nodup ∧ ∀ a ∈ g, H a = none) → (∀ a ∈ g, H a = none ∨ a ∈ G) → Q v H') {p : Addr} (hp : H p = none) : Q (.ref p) (upd H p (.lst xs)) := by
  have one : ∀ a ∈ [p], H a = none := fun a m => by
    rw [List.mem_singleton] at m; subst m; exact hp
  cases hz : fzs ds with
  | true =>
    rw [hz] at q
    obtain ⟨e, r'⟩ := r.fz hz
    exact q _ _ [p] (same_new hp) ((r' true).newLst hp) (fun _ => ⟨by simp, one⟩) fun a m => .inl (one a m)
  | false =>
    rw [hz] at q
    exact q _ _ (p :: f) (same_new hp) (r.sh.newLst hp) (fun z => nomatch z) fun a m => (List.mem_cons.mp m).elim (fun e => .inl (e ▸ hp)) fun m => .inr (hf a m)
/-- the very same tuple again -/
theorem fin_old {K : PySem.W.Frag} {H : Hp} {Q : VK} {G : List Addr} {b : Bool} {v : V} {ds : List D} {f : List Addr} (r : Rep K H b v (.tuple ds) f) (hf : ∀ a ∈ f, a ∈ G)
    (q : ∀ v H' g, Same H H' → Rep K H' (fzs ds) v (.tuple ds) g → (fzs ds = true → g.Nodup ∧ ∀ a ∈ g, H a = none) → (∀ a ∈ g, H a = none ∨ a ∈ G) → Q v H') : Q v H := by
  cases hz : fzs ds with
  | true =>
    rw [hz] at q
    obtain ⟨e, r'⟩ := r.fz (by simpa [fz] using hz)
    exact q _ _ [] (Same.refl _) (r' true) (fun _ => ⟨List.nodup_nil, fun a m => nomatch m⟩) fun a m => nomatch m
  | false =>
    rw [hz] at q
    exact q _ _ f (Same.refl _) r.sh (fun z => nomatch z) fun a m => .inr (hf a m)

section
variable {X : Cx}
theorem scal_fin {K : PySem.W.Frag} {H : Hp} {Q : VK} {G : Addr → Prop} {v : V} {d : D} (r : Rep K H true v d [])
    (q : ∀ v H' g, Same H H' → Rep K H' true v d g → (true = true → g.Nodup ∧ ∀ a ∈ g, H a = none) → (∀ a ∈ g, H a = none ∨ G a) → Q v H') : Q v H :=
  q v H [] (Same.refl _) r (fun _ => ⟨List.nodup_nil, fun a m => nomatch m⟩) fun a m => nomatch m

theorem Inv.rdlst {pins : List (Addr × Obj)} {σ : L2.St} {H : Hp} {s : Shared} {l : Addr} {xs : List V} (I : Inv X pins σ H s) (h : Rd H l (.lst xs)) : xs.length ≤ sizeLine ∧ ∃ (its : List Value) (n : Nat), Vals xs its ∧ xs.length = its.length ∧ s.heap.get? l = some { cls := .type "list", data := .seq its.toArray n } := by
  obtain ⟨z, its, n, r, e⟩ := h.ok I.hok
  exact ⟨z, its, n, r, r.length, e⟩
theorem op_catR : OpR X (binaryOp .Add) (fun x y H Q => ∃ l b xs zs, x = .ref l ∧ y = .ref b ∧ Rd H l (.lst xs) ∧ Rd H b (.lst zs) ∧ xs.length + zs.length ≤ sizeLine ∧ ∀ p, H p = none → Q (.ref p) (upd H p (.lst (xs ++ zs)))) := by
  intro pins s σ H x y v u Q I rx ry h
  obtain ⟨l, b, xs, zs, rfl, rfl, hH, hB, hz, q⟩ := h
  cases rx
  cases ry
  obtain ⟨z, its, n, r, hl, e⟩ := Inv.rdlst I hH
  obtain ⟨z2, its2, n2, r2, hl2, e2⟩ := Inv.rdlst I hB
  refine PySem.P.add_list e e2 ?_ (by rw [List.size_toArray, List.size_toArray]; omega)
  have ea : its.toArray ++ its2.toArray = (its ++ its2).toArray := by simp
  rw [ea]
  exact ⟨.ref _, _, I.lnew (t' := s.toks) (r.append r2) (by rw [List.length_append]; omega), rfl, q _ I.fresh⟩
theorem op_repR : OpR X (binaryOp .Mult) (fun x y H Q => ∃ l k xs, x = .ref l ∧ y = .int k ∧ Rd H l (.lst xs) ∧ -(2 ^ 63) ≤ k ∧ k < 2 ^ 63 ∧ xs.length * k.toNat ≤ sizeLine ∧
  ∀ p, H p = none → Q (.ref p) (upd H p (.lst (List.replicate k.toNat xs).flatten))) := by
  intro pins s σ H x y v u Q I rx ry h
  obtain ⟨l, k, xs, rfl, rfl, hH, h1, h2, hz, q⟩ := h
  cases rx
  obtain ⟨t, rfl⟩ := ry
  obtain ⟨z, its, n, r, hl, e⟩ := Inv.rdlst I hH
  have hlen : its.toArray.size * k.toNat ≤ sizeLine := by rw [List.size_toArray, ← hl]; exact hz
  have hcap : ¬ its.toArray.size * k.toNat > (2 ^ 63 - 1) / 8 := by
    have : (sizeLine : Nat) ≤ (2 ^ 63 - 1) / 8 := by decide
    omega
  have hfit : ¬ (!Builtin.List.listFitsIndex k) = true := by
    rw [fitsIndex_both h1 h2]
    exact Bool.false_ne_true
  have hlong : ¬ Builtin.List.listTooLong (its.toArray.size * k.toNat) = true := by
    rw [notLongL hlen]
    exact Bool.false_ne_true
  have hnew : List.foldl (fun x1 x2 => x1 ++ x2) #[] (List.replicate (if its.toArray.isEmpty = true then 0 else k.toNat) its.toArray) = (List.replicate k.toNat its).flatten.toArray := by
    have f0 : ∀ m : Nat, List.foldl (fun x1 x2 => x1 ++ x2) #[] (List.replicate m its.toArray) = (List.replicate m its).flatten.toArray := fun m => by
      have := foldl_rep its m []
      rw [List.nil_append] at this
      exact this
    rw [f0]
    cases its with
    | nil => simp
    | cons a r' => rw [if_neg (by simp)]
  refine wpAny_binaryOp_repeat_ref (T := "list") (U := "int") (by decide) ⟨_, e, rfl⟩ (fun s' => typeIs_int s' k t) noFill_list_mul F.fills_int_mul F.slot_int_rmul repeat_list F.slot_int_index.lookup
    (call_meets F.slot_int_rmul (typeIs_int s k t) F.entry_int_rmul (F.args_int_rmul_2 _ _) (int___rmul___int_list k t l its.toArray n)
      ⟨e, rfl, ⟨_, e, rfl⟩, call_meets F.slot_list_mul ⟨_, e, rfl⟩ F.entry_list_mul (F.args_list_mul_2 _ _) (AutoListH.list___mul___list_int_3 l its.toArray n k t hfit hcap hlong) ⟨e, ?_⟩⟩)
  rw [hnew]
  exact ⟨.ref _, _, I.lnew (t' := s.toks) (r.rep k.toNat) (by rw [PyProof.Rows.lm_len_rep_flat, Nat.mul_comm]; exact hz), rfl, q _ I.fresh⟩

theorem o_add : OpR X (binaryOp .Add) (rDat X.K (binD .add)) := by
  intro pins s σ H x y v u Q I rx ry ⟨p, d1, g1, q, d2, g2, b, d, r1, r2, e, h⟩
  cases d1 with
  | int i =>
    cases d2 with
    | int j =>
      simp only [binD, Option.some.injEq, Prod.mk.injEq] at e
      obtain ⟨rfl, rfl⟩ := e
      exact op_add pins s σ H x y v u Q I rx ry ⟨i, j, r1.i.1, r2.i.1, scal_fin (.int _) h⟩
    | _ => simp [binD] at e
  | str i =>
    cases d2 with
    | str j =>
      simp only [binD] at e
      split at e
      · rename_i hl
        simp only [Option.some.injEq, Prod.mk.injEq] at e
        obtain ⟨rfl, rfl⟩ := e
        exact op_add_str pins s σ H x y v u Q I rx ry ⟨i, j, r1.s.1, r2.s.1, hl, scal_fin (.str _) h⟩
      · cases e
    | _ => simp [binD] at e
  | tuple xs =>
    cases d2 with
    | tuple ys =>
      simp only [binD] at e
      split at e
      · rename_i hl
        simp only [Option.some.injEq, Prod.mk.injEq] at e
        obtain ⟨rfl, rfl⟩ := e
        obtain ⟨a, us, rfl, ha, ra⟩ := r1.t
        obtain ⟨a2, us2, rfl, ha2, ra2⟩ := r2.t
        have rr := ra.sh.append ra2.sh
        refine op_catA pins s σ H _ _ v u Q I rx ry ⟨a, a2, us, us2, rfl, rfl, SqT.of ha, SqT.of ha2, by rw [ra.length, ra2.length]; exact hl, fun e0 => ?_, fun _ e0 => ?_, fun _ _ p hp => ?_⟩
        · subst e0
          have : xs = [] := List.eq_nil_of_length_eq_zero ra.length.symm
          subst this
          exact fin_old (G := g1 ++ g2) r2 (fun a m => List.mem_append_right _ m) fun v H' g s1 r1 f1 f2 => h v H' g s1 r1 f1 fun a m => (f2 a m).imp id List.mem_append.mp
        · subst e0
          have : ys = [] := List.eq_nil_of_length_eq_zero ra2.length.symm
          subst this
          rw [List.append_nil] at h
          exact fin_old (G := g1 ++ g2) r1 (fun a m => List.mem_append_left _ m) fun v H' g s1 r1 f1 f2 => h v H' g s1 r1 f1 fun a m => (f2 a m).imp id List.mem_append.mp
        · exact fin_tup (G := g1 ++ g2) rr (fun a m => m) (fun v H' g s1 r1 f1 f2 => h v H' g s1 r1 f1 fun a m => (f2 a m).imp id List.mem_append.mp) hp
      · cases e
    | _ => simp [binD] at e
  | list xs =>
    cases d2 with
    | list ys =>
      simp only [binD] at e
      split at e
      · rename_i hl
        simp only [Option.some.injEq, Prod.mk.injEq] at e
        obtain ⟨rfl, rfl⟩ := e
        obtain ⟨a, us, fs, rfl, ha, ra, rfl⟩ := r1.l
        obtain ⟨a2, us2, fs2, rfl, ha2, ra2, rfl⟩ := r2.l
        have rr := ra.sh.append ra2.sh
        refine op_catR pins s σ H _ _ v u Q I rx ry ⟨a, a2, us, us2, rfl, rfl, ha.rd, ha2.rd, by rw [ra.length, ra2.length]; exact hl, fun p hp => ?_⟩
        exact fin_lst (G := fs ++ fs2) rr (fun a m => m) (fun v H' g s1 r1 f1 f2 => h v H' g s1 r1 f1 fun a m => (f2 a m).imp id fun m => (List.mem_append.mp m).imp (List.mem_cons_of_mem _) (List.mem_cons_of_mem _)) hp
      · cases e
    | _ => simp [binD] at e
  | _ => simp [binD] at e
theorem o_sub : OpR X (binaryOp .Sub) (rDat X.K (binD .sub)) := by
  intro pins s σ H x y v u Q I rx ry ⟨p, d1, g1, q, d2, g2, b, d, r1, r2, e, h⟩
  cases d1 with
  | int i =>
    cases d2 with
    | int j =>
      simp only [binD, Option.some.injEq, Prod.mk.injEq] at e
      obtain ⟨rfl, rfl⟩ := e
      exact op_sub pins s σ H x y v u Q I rx ry ⟨i, j, r1.i.1, r2.i.1, scal_fin (.int _) h⟩
    | _ => simp [binD] at e
  | _ => simp [binD] at e
theorem o_fdiv : OpR X (binaryOp .FloorDiv) (rDat X.K (binD .fdiv)) := by
  intro pins s σ H x y v u Q I rx ry ⟨p, d1, g1, q, d2, g2, b, d, r1, r2, e, h⟩
  cases d1 with
  | int i =>
    cases d2 with
    | int j =>
      simp only [binD] at e
      split at e
      · rename_i hl
        simp only [Option.some.injEq, Prod.mk.injEq] at e
        obtain ⟨rfl, rfl⟩ := e
        exact op_fdiv pins s σ H x y v u Q I rx ry ⟨i, j, r1.i.1, r2.i.1, hl, scal_fin (.int _) h⟩
      · cases e
    | _ => simp [binD] at e
  | _ => simp [binD] at e
theorem o_mod : OpR X (binaryOp .Mod) (rDat X.K (binD .mod)) := by
  intro pins s σ H x y v u Q I rx ry ⟨p, d1, g1, q, d2, g2, b, d, r1, r2, e, h⟩
  cases d1 with
  | int i =>
    cases d2 with
    | int j =>
      simp only [binD] at e
      split at e
      · rename_i hl
        simp only [Option.some.injEq, Prod.mk.injEq] at e
        obtain ⟨rfl, rfl⟩ := e
        exact op_mod pins s σ H x y v u Q I rx ry ⟨i, j, r1.i.1, r2.i.1, hl, scal_fin (.int _) h⟩
      · cases e
    | _ => simp [binD] at e
  | _ => simp [binD] at e
theorem o_pow : OpR X (binaryOp .Pow) (rDat X.K (binD .pow)) := by
  intro pins s σ H x y v u Q I rx ry ⟨p, d1, g1, q, d2, g2, b, d, r1, r2, e, h⟩
  cases d1 with
  | int i =>
    cases d2 with
    | int j =>
      simp only [binD] at e
      split at e
      · rename_i hl
        simp only [Option.some.injEq, Prod.mk.injEq] at e
        obtain ⟨rfl, rfl⟩ := e
        exact op_pow pins s σ H x y v u Q I rx ry ⟨i, j, r1.i.1, r2.i.1, hl, scal_fin (.int _) h⟩
      · cases e
    | _ => simp [binD] at e
  | _ => simp [binD] at e
end
end Den

set_option Elab.async false
set_option linter.all false
set_option maxRecDepth 100000
set_option maxHeartbeats 4000000
/-! DenX: built-in rules that the hand layer lacks: tuple * 1, any of a tuple of ints. -/
namespace Den
open PySem PySem.Spec PyProof.Rows L2
theorem tuple_mul1W (l : Addr) (its : Array Value) (n : Nat) (dd : Option Addr) (sl : Array (Option Value)) (u : Tok) :
    Meets (Builtin.«tuple.__mul__» ⟨[.ref l, .int 1 u], []⟩) (fun _ R s => s.heap.get? l = some { cls := .type "tuple", dict := dd, data := .seq its n, slots := sl } ∧ R (.ok (.ret (Value.ref l))) s) :=
  .of_wp fun prog w A R s h => by
    obtain ⟨hp, g, d, tk, os⟩ := s
    obtain ⟨hl, h⟩ := h
    have f1 := AutoSeq1.idx_int
    wp_walk using wpAny_loadPart' hl
    repeat (first
      | (refine wpAny_ite_false (by decide) ?_; wp_walk using wpAny_loadPart' hl)
      | (refine wpAny_ite_true (by simp) ?_; wp_walk using wpAny_loadPart' hl))
    first | exact ⟨_, rfl, h⟩ | exact h
theorem tuple_mul0W (l : Addr) (its : Array Value) (n : Nat) (dd : Option Addr) (sl : Array (Option Value)) (u : Tok) (hne : its.isEmpty = false) :
    Meets (Builtin.«tuple.__mul__» ⟨[.ref l, .int 0 u], []⟩) (fun _ R s => s.heap.get? l = some { cls := .type "tuple", dict := dd, data := .seq its n, slots := sl } ∧ R (.ok (.ret (Value.ref s.heap.objs.size))) { s with heap := s.heap.push { cls := Value.type "tuple", data := Data.seq #[] }, toks := s.toks }) :=
  .of_wp fun prog w A R s h => by
    obtain ⟨hp, g, d, tk, os⟩ := s
    obtain ⟨hl, h⟩ := h
    have f1 := AutoSeq1.idx_int
    wp_walk using wpAny_loadPart' hl
    repeat (first
      | (refine wpAny_ite_false (by rw [hne]; decide) ?_; wp_walk using wpAny_loadPart' hl)
      | (refine wpAny_ite_false (by decide) ?_; wp_walk using wpAny_loadPart' hl)
      | (refine wpAny_ite_true (by simp) ?_; wp_walk using wpAny_loadPart' hl))
    first | exact ⟨_, rfl, h⟩ | exact h
section
variable {X : Cx}
theorem op_one (pins : List (Addr × Obj)) (s : Shared) (σ : L2.St) (H : Hp) (l : Addr) (xs : List V) (v u : Value) (Q : VK) (I : Inv X pins σ H s) (rx : RelV (.ref l) v) (ry : RelV (.int 1) u) (hT : SqT X.K H l xs) (q : Q (.ref l) H) :
    wpAny (model X.prog X.w) X.A (binaryOp .Mult v u) (EP X pins σ Q) X.xe s := by
  cases rx
  obtain ⟨t, rfl⟩ := ry
  obtain ⟨its, r, ⟨⟨cls, dd, data, sl⟩, ho, hc, n, hd⟩, hs⟩ := I.tuple hT
  simp only at hc hd
  subst hc hd
  refine wpAny_binaryOp_repeat_ref (T := "tuple") (U := "int") (by decide) ⟨_, ho, rfl⟩ (fun s' => typeIs_int s' 1 t) noFill_tuple_mul F.fills_int_mul F.slot_int_rmul repeat_tuple F.slot_int_index.lookup
    (call_meets F.slot_int_rmul (typeIs_int s 1 t) F.entry_int_rmul (F.args_int_rmul_2 _ _) (int_rmul_tuple 1 t l its.toArray n dd sl)
      ⟨ho, rfl, ⟨_, ho, rfl⟩, call_meets F.slot_tuple_mul ⟨_, ho, rfl⟩ F.entry_tuple_mul (F.args_tuple_mul_2 _ _) (tuple_mul1W l its.toArray n dd sl t) ⟨ho, .ref l, H, I, rfl, q⟩⟩)
theorem op_zero (pins : List (Addr × Obj)) (s : Shared) (σ : L2.St) (H : Hp) (l : Addr) (xs : List V) (v u : Value) (Q : VK) (I : Inv X pins σ H s) (rx : RelV (.ref l) v) (ry : RelV (.int 0) u) (hT : SqT X.K H l xs) (hne : xs ≠ []) (q : ∀ p, H p = none → Q (.ref p) (upd H p (.tup []))) :
    wpAny (model X.prog X.w) X.A (binaryOp .Mult v u) (EP X pins σ Q) X.xe s := by
  cases rx
  obtain ⟨t, rfl⟩ := ry
  obtain ⟨its, r, ⟨⟨cls, dd, data, sl⟩, ho, hc, n, hd⟩, hs⟩ := I.tuple hT
  simp only at hc hd
  subst hc hd
  have hi : its.toArray.isEmpty = false := by
    cases its with
    | nil =>
      have := r.length
      exact absurd (List.eq_nil_of_length_eq_zero this) hne
    | cons a b => rfl
  refine wpAny_binaryOp_repeat_ref (T := "tuple") (U := "int") (by decide) ⟨_, ho, rfl⟩ (fun s' => typeIs_int s' 0 t) noFill_tuple_mul F.fills_int_mul F.slot_int_rmul repeat_tuple F.slot_int_index.lookup
    (call_meets F.slot_int_rmul (typeIs_int s 0 t) F.entry_int_rmul (F.args_int_rmul_2 _ _) (int_rmul_tuple 0 t l its.toArray n dd sl)
      ⟨ho, rfl, ⟨_, ho, rfl⟩, call_meets F.slot_tuple_mul ⟨_, ho, rfl⟩ F.entry_tuple_mul (F.args_tuple_mul_2 _ _) (tuple_mul0W l its.toArray n dd sl t hi) ⟨ho, ?_⟩⟩)
  refine ⟨.ref s.heap.objs.size, _, I.laid (t' := s.toks) (o := .tup []) (fun b ob q => Heap.get?_push_of_some _ q) (Nat.le_refl _) ?_, rfl, q _ (I.hok.fresh (Nat.le_refl _))⟩
  exact ⟨Nat.zero_le _, [], .nil, IsTup.new _ _⟩
theorem truth_ints {prog : Program} {w : World} {A : Around} {ns : List Int} {its : List Value} (r : Vals (ns.map V.int) its) :
    TruthOf prog w A (fun i v => its.toArray[i]? = some v) (fun i => ns.getD i 0 != 0) := fun i v s Q E hv hq => by
  have hv' : its[i]? = some v := by simpa using hv
  have hlt : i < ns.length := by
    have := (List.getElem?_eq_some_iff.mp hv').1
    have := r.length
    rw [List.length_map] at this
    omega
  obtain ⟨w', hw, t, e⟩ := r.get (i := i) (x := .int ns[i]) (by simp [hlt])
  rw [hv'] at hw
  cases hw
  subst e
  have hq' : Q (ns.getD i 0 != 0) s := hq
  rw [show ns.getD i 0 = ns[i] by simp [hlt]] at hq'
  exact truthy_int hq'
theorem any_range' : ∀ ns : List Int, (List.range ns.length).any (fun i => ns.getD i 0 != 0) = ns.any (· != 0)
  | [] => rfl
  | b :: bs => by
    rw [List.length_cons, List.range_succ_eq_map, List.any_cons, List.any_map, List.any_cons, ← any_range' bs]
    rfl
theorem any_tup (hc : X.calm = true) (pins : List (Addr × Obj)) (s : Shared) (σ : L2.St) (H : Hp) (a : Addr) (ns : List Int) (us : List Value) (Q : VK) (I : Inv X pins σ H s) (r : Vals [V.ref a] us) (hs : SqT X.K H a (ns.map V.int)) (q : Q (.bl (ns.any (· != 0))) H) :
    wpAny (model X.prog X.w) X.A (call (.builtin "any") us) (EP X pins σ Q) X.xe s := by
  obtain ⟨its, rv, hl, _⟩ := I.tuple hs
  rw [Vals.ref1 r]
  have hlt : a < s.heap.objs.size := by obtain ⟨_, e, _⟩ := hl; exact Heap.lt_size e
  refine call_any_walk (wpAny_pyIter_tuple hl ?_)
  refine ⟨_, _, _, _, _, _, _, rfl, Walks.tuple (A := X.A.in1) (I.ok.hd hc) _ a (Nat.ne_of_lt hlt) its.toArray, ⟨⟨_, Heap.get?_push_size _ rfl, rfl, rfl⟩, hl.push _⟩, truth_ints rv, fun h' tk hk => ?_⟩
  refine ⟨.bl _, H, I.kept fun b o eo => hk b o (fun hmem => ?_) (Heap.get?_push_of_some _ eo), ?_, q⟩
  · rcases List.mem_cons.mp hmem with e1 | hmem
    · exact absurd (e1 ▸ Heap.lt_size eo) (Nat.lt_irrefl _)
    · cases hmem
  · show Value.bool _ = Value.bool _
    rw [← any_range', List.size_toArray, ← rv.length, List.length_map]
end
end Den

set_option Elab.async false
set_option linter.all false
set_option maxRecDepth 100000
set_option maxHeartbeats 4000000
/-! DenXa: more rules that the hand layer lacks: xs.extend(a tuple), a written tuple's index, str of a bool. -/
namespace Den
open PySem PySem.Spec PyProof.Rows L2
theorem list_extendT (l : Addr) (xs : Array Value) (n : Nat) (b : Addr) (ys : Array Value) (n2 : Nat) (dd : Option Addr) (sl : Array (Option Value)) (h0 : ¬(!xs.isEmpty && Builtin.List.listTooLong (xs.size + ys.size)) = true) (h1 : xs.size ≤ sizeLine) (h2 : xs.size + ys.size ≤ sizeLine + 1) :
    Meets (Builtin.«list.extend» ⟨[.ref l, .ref b], []⟩) (fun _ R s => (s.heap.get? l = some { cls := .type "list", dict := none, data := .seq xs n, slots := #[] } ∧ s.heap.get? b = some { cls := .type "tuple", dict := dd, data := .seq ys n2, slots := sl }) ∧ R (.ok (.ret Value.none)) { s with heap := s.heap.update l (Obj.mapSeq fun z => z ++ ys), toks := s.toks }) :=
  .of_wp fun prog w A R s h => by
    obtain ⟨hp, g, d, tk, os⟩ := s
    obtain ⟨⟨hl, hb⟩, h⟩ := h
    have f1 := AutoSeq1.idx_int
    have f2 := AutoSeq1.sub_tuple_tuple
    have f3 := AutoSeq1.sub_list_list
    have f4 := AutoSeq1.sub_tuple_list
    have f5 := AutoSeq1.sub_list_tuple
    have hz' : (xs ++ ys).size ≤ sizeLine + 1 := by rw [Array.size_append]; exact h2
    wp_walk using (wpAny_updateSeq hl rfl (hz := h1) (_hz' := hz')), wpAny_loadPart' hl, wpAny_loadPart' hb
    exact ⟨_, rfl, h⟩
section
variable {X : Cx}
theorem mt_extT : MtM X "list.extend" (fun x vs H Q => ∃ l b xs zs, x = .ref l ∧ vs = [.ref b] ∧ H l = some (.lst xs) ∧ (H b = some (.lst zs) ∨ SqT X.K H b zs) ∧ xs.length + zs.length ≤ sizeLine ∧ Q .non (upd H l (.lst (xs ++ zs)))) := by
  intro pins s σ H x vs v us Q I rx rv h
  obtain ⟨l, b, xs, zs, rfl, rfl, hH, hB, hz, q⟩ := h
  rcases hB with hB | hB
  · exact mt_extend pins s σ H _ _ v us Q I rx rv ⟨l, b, xs, zs, rfl, rfl, hH, hB, hz, q⟩
  · cases rx
    obtain ⟨u, rfl, ru⟩ := rv.one
    cases ru
    obtain ⟨z, its, n, r, hl, e⟩ := I.lstM hH
    obtain ⟨its2, r2, ⟨⟨cls, dd, data, sl⟩, ho, hc, n2, hd⟩, hs⟩ := I.tuple hB
    simp only at hc hd
    subst hc hd
    have e2 : its2.length = zs.length := r2.length.symm
    have hsz : its.toArray.size + its2.toArray.size ≤ sizeLine := by
      rw [List.size_toArray, List.size_toArray]; omega
    have hlong : ¬ (!its.toArray.isEmpty && Builtin.List.listTooLong (its.toArray.size + its2.toArray.size)) = true := by
      rw [notLongL hsz, Bool.and_false]
      exact Bool.false_ne_true
    refine call_meets F.slot_list_extend ⟨_, e, rfl⟩ F.entry_list_extend (F.args_list_extend_2 _ _) (list_extendT l its.toArray n b its2.toArray n2 dd sl hlong (by rw [List.size_toArray]; omega) (by omega)) ⟨⟨e, ho⟩, ?_⟩
    refine ⟨.non, _, I.lset (its' := its ++ its2) hH e (by simp) (r.append r2) ?_, rfl, q⟩
    rw [List.length_append]
    omega
theorem call_str_bool : CallR X (.type "str") (fun xs H Q => ∃ b, xs = [.bl b] ∧ Q (.str (if b then "True" else "False")) H) := by
  intro pins s σ H xs us Q I r h
  obtain ⟨b, rfl, q⟩ := h
  obtain ⟨u, rfl, ru⟩ := vals1 r
  cases ru
  exact PySem.P.str_of_bool ⟨.str _, H, I.tok _, ⟨_, rfl⟩, q⟩
/-- a written tuple's index -/
theorem pe_tix {es : List Expr} {e : Expr} {x1 : Nat} {tp apos cpos : Pos} {t : TA} {te : TE} (h : PA X es t) (he : PA X [e] (fun σ H Q => te σ H fun y H1 => Q [y] H1))
    (hfew : ((backTo cpos (starEach [e] X.env)).all (fun x => !x.1) && (backToKw cpos (keywordEach [] X.env)).all (fun x => x.1.isSome)
      && decide (([e] : List Expr).length + ([] : List Keyword).length + (if ([] : List Keyword).isEmpty then 0 else 1) < 30)) = true)
    (hline : (apos.endLine == cpos.line) = true) (hs : starEach [e] X.env = (false, eval e X.env) :: starEach [] X.env) :
    PE X (.Call (.Attribute (.Tuple es x1 tp) "index" apos) [e] [] cpos) (fun σ H Q => t σ H fun xs H1 => ∃ ys : List Str, xs = ys.map V.str ∧ ys.length ≤ 1000 ∧ ∀ p, H1 p = none → te σ (upd H1 p (.tup xs)) fun y H2 => ∃ z j, [y] = [V.str z] ∧ H2 p = some (.tup xs) ∧ ys[j]? = some z ∧ (∀ m, m < j → ys[m]? ≠ some z) ∧ Q (.int (j : Nat)) H2) := by
  refine ⟨fun pins s σ H Q I hq => ?_⟩
  refine wpAny_Call_method_late rfl hfew hline rfl (wpAny_Tuple_spliced (thn (h.run tp pins s σ H _ I hq) fun us s1 ⟨xs, H1, I1, r, ys, exs, hlen, q⟩ => ⟨?_, ?_⟩))
  · rw [← r.length, exs, List.length_map, sizeLine_eq]; omega
  · have hf : H1 s1.heap.objs.size = none := I1.hok.fresh (Nat.le_refl _)
    have hobj : (s1.heap.push { cls := .type "tuple", data := .seq us.toArray }).get? s1.heap.objs.size = some { cls := .type "tuple", data := .seq us.toArray } := Heap.get?_push_size _ rfl
    have I2 := I1.laid (a := s1.heap.objs.size) (o := .tup xs) (h' := s1.heap.push { cls := .type "tuple", data := .seq us.toArray }) (t' := s1.toks) (fun b u e => Heap.get?_push_of_some _ e) (Nat.le_refl _) ⟨by rw [exs, List.length_map, sizeLine_eq]; omega, us, r, ⟨_, hobj, rfl, _, rfl⟩⟩
    refine ⟨"tuple", "tuple.index", PySem.F.plainAttrs_tuple, PySem.F.slot_tuple_index, PySem.F.type_tuple_index, ⟨_, hobj, rfl⟩, fun a e => ?_, ?_⟩
    · cases e
      exact ⟨_, hobj, rfl⟩
    · have hA := he.run cpos pins _ σ _ (fun ws H2 => ∃ z j, ws = [V.str z] ∧ H2 s1.heap.objs.size = some (.tup xs) ∧ ys[j]? = some z ∧ (∀ m, m < j → ys[m]? ≠ some z) ∧ Q (.int (j : Nat)) H2) I2 (q _ hf)
      rw [hs] at hA ⊢
      refine Calls.callWith_builtin rfl (Calls.evalArgs_plain ?_)
      refine thn hA fun vs s2 ⟨ws, H2, I3, r2, z, j, ez, hp, hj, hno, q2⟩ => ?_
      exact mt_tup_index pins s2 σ H2 (.ref s1.heap.objs.size) ws (.ref s1.heap.objs.size) vs Q I3 rfl r2 ⟨_, ys, z, j, rfl, ez, .inl (.inl (by rw [hp, exs])), hj, hno, q2⟩
end
end Den

set_option Elab.async false
set_option linter.all false
set_option maxRecDepth 100000
/-! DenD: products, comparisons, places, slices, truth. -/
namespace Den
open PySem PySem.Spec PyProof.Rows L2

theorem fzs_append : ∀ xs ys : List D, fzs (xs ++ ys) = (fzs xs && fzs ys)
  | [], ys => by simp [fzs]
  | x :: r, ys => by simp [fzs, fzs_append r ys, Bool.and_assoc]
theorem fzs_rep {xs : List D} (h : fzs xs = true) : ∀ k : Nat, fzs (List.replicate k xs).flatten = true
  | 0 => by simp [fzs]
  | k + 1 => by rw [List.replicate_succ, List.flatten_cons, fzs_append, h, fzs_rep h k]; rfl
theorem Reps.rep {K : PySem.W.Frag} {H : Hp} {b : Bool} {vs : List V} {ds : List D} (r : Reps K H b vs ds []) : ∀ k : Nat, Reps K H b (List.replicate k vs).flatten (List.replicate k ds).flatten []
  | 0 => by simpa using Reps.nil
  | k + 1 => by
    rw [List.replicate_succ, List.flatten_cons, List.replicate_succ, List.flatten_cons]
    exact r.append (Reps.rep r k)

section
variable {X : Cx}
theorem o_mul : OpR X (binaryOp .Mult) (rDat X.K (binD .mul)) := by
  intro pins s σ H x y v u Q I rx ry ⟨p, d1, g1, q, d2, g2, b, d, r1, r2, e, h⟩
  cases d1 with
  | int i =>
    cases d2 with
    | int j =>
      simp only [binD] at e
      split at e
      · rename_i hl
        simp only [Option.some.injEq, Prod.mk.injEq] at e
        obtain ⟨rfl, rfl⟩ := e
        exact op_mul pins s σ H x y v u Q I rx ry ⟨i, j, r1.i.1, r2.i.1, hl, scal_fin (.int _) h⟩
      · cases e
    | _ => simp [binD] at e
  | list xs =>
    cases d2 with
    | int k =>
      simp only [binD] at e
      split at e
      · rename_i hl
        obtain ⟨l1, l2, l3, l4⟩ := hl
        simp only [Option.some.injEq, Prod.mk.injEq] at e
        obtain ⟨rfl, rfl⟩ := e
        obtain ⟨a, us, fs, rfl, ha, ra, rfl⟩ := r1.l
        obtain ⟨e1, e2⟩ := ra.fz l1
        have hz : us.length * k.toNat ≤ sizeLine := by
          rw [ra.length, sizeLine_eq]
          have := Nat.mul_le_mul l4 (show k.toNat ≤ 1000 by omega)
          omega
        refine op_repR pins s σ H _ _ v u Q I rx ry ⟨a, k, us, rfl, r2.i.1, ha.rd, by omega, by omega, hz, fun p hp => ?_⟩
        have rr := (e2 true).rep k.toNat
        have fr := fzs_rep l1 k.toNat
        exact fin_lst (G := []) rr (fun a m => m) (fun v H' g s1 r1 f1 f2 => h v H' g s1 (by rw [fr] at r1; exact r1) (fun _ => f1 fr) fun a m => (f2 a m).imp id fun z => nomatch z) hp
      · cases e
    | _ => simp [binD] at e
  | tuple xs =>
    cases d2 with
    | int k =>
      simp only [binD] at e
      split at e
      · rename_i hl
        obtain ⟨l1, l0, l2, l3, l4⟩ := hl
        simp only [Option.some.injEq, Prod.mk.injEq] at e
        obtain ⟨rfl, rfl⟩ := e
        obtain ⟨a, us, rfl, ha, ra⟩ := r1.t
        obtain ⟨e1, e2⟩ := ra.fz l1
        by_cases k0 : k = 0
        · subst k0
          have hk := r2.i.1
          subst hk
          refine op_zero pins s σ H a us v u Q I rx ry (SqT.of ha) (fun z => l0 (by subst z; exact List.eq_nil_of_length_eq_zero ra.length.symm)) fun p hp => ?_
          exact fin_tup (b := true) (f := []) (ds := []) (G := []) (xs := []) .nil (fun a m => m) (fun v H' g s1 r1 f1 f2 => h v H' g s1 r1 (fun _ => f1 rfl) fun a m => (f2 a m).imp id fun z => nomatch z) hp
        by_cases k1 : k = 1
        · subst k1
          have hk := r2.i.1
          subst hk
          refine op_one pins s σ H a us v u Q I rx ry (SqT.of ha) ?_
          have fe : (List.replicate (1 : Int).toNat xs).flatten = xs := by simp
          rw [fe] at h
          exact scal_fin (G := fun a => a ∈ g1 ∨ a ∈ g2) (Rep.tup ha (e2 true)) h
        refine op_repT pins s σ H _ _ v u Q I rx ry ⟨a, k, us, rfl, r2.i.1, SqT.of ha, fun z => l0 ?_, by omega, l3, by rw [ra.length]; exact l4, fun p hp => ?_⟩
        · subst z; exact List.eq_nil_of_length_eq_zero ra.length.symm
        have rr := (e2 true).rep k.toNat
        have fr := fzs_rep l1 k.toNat
        exact fin_tup (G := []) rr (fun a m => m) (fun v H' g s1 r1 f1 f2 => h v H' g s1 (by rw [fr] at r1; exact r1) (fun _ => f1 fr) fun a m => (f2 a m).imp id fun z => nomatch z) hp
      · cases e
    | _ => simp [binD] at e
  | _ => simp [binD] at e

def bop : Bo → Operator
  | .add => .Add
  | .sub => .Sub
  | .mul => .Mult
  | .fdiv => .FloorDiv
  | .mod => .Mod
  | .pow => .Pow
theorem o_bin : ∀ o : Bo, OpR X (binaryOp (bop o)) (rDat X.K (binD o))
  | .add => o_add
  | .sub => o_sub
  | .mul => o_mul
  | .fdiv => o_fdiv
  | .mod => o_mod
  | .pow => o_pow

/-! ### comparisons -/
theorem shaped2 {x y : D} (h : (SeqAt.shaped x && SeqAt.shaped y) = true) : SeqAt.shaped x = true ∧ SeqAt.shaped y = true := Bool.and_eq_true_iff.mp h
theorem c_eqne (hu : X.A.units + 64 < cLine) : OpR X (compareOp .Eq) (rBl X.K eqD) ∧ OpR X (compareOp .NotEq) (rBl X.K fun x y => (eqD x y).map (!·)) := by
  have deep : ∀ {p q : Bool} {d1 d2 : D} {g1 g2 : List Addr} {x y : V} {H : Hp} {c : Bool}, Rep X.K H p x d1 g1 → Rep X.K H q y d2 g2 → (if (SeqAt.shaped d1 && SeqAt.shaped d2) = true then some (PyData.eqv d1 d2) else none) = some c →
      Dp X.K H x d1 ∧ Dp X.K H y d2 ∧ SeqAt.shaped d1 = true ∧ SeqAt.shaped d2 = true ∧ PyData.eqv d1 d2 = c := fun r1 r2 e => by
    split at e
    · rename_i hs
      obtain ⟨s1, s2⟩ := shaped2 hs
      exact ⟨r1.dps s1, r2.dps s2, s1, s2, Option.some.inj e⟩
    · cases e
  have main : ∀ {p q : Bool} {d1 d2 : D} {g1 g2 : List Addr} {x y : V} {H : Hp} {c : Bool}, Rep X.K H p x d1 g1 → Rep X.K H q y d2 g2 → eqD d1 d2 = some c →
      (scal x y = true ∧ c = decide (x = y)) ∨ (Dp X.K H x d1 ∧ Dp X.K H y d2 ∧ SeqAt.shaped d1 = true ∧ SeqAt.shaped d2 = true ∧ PyData.eqv d1 d2 = c) := fun {p q d1 d2 g1 g2 x y H c} r1 r2 e => by
    unfold eqD at e
    split at e
    · rename_i i j
      obtain ⟨rfl, _⟩ := r1.i
      obtain ⟨rfl, _⟩ := r2.i
      refine .inl ⟨rfl, ?_⟩
      rw [← Option.some.inj e]; simp
    · rename_i i j
      obtain ⟨rfl, _⟩ := r1.s
      obtain ⟨rfl, _⟩ := r2.s
      refine .inl ⟨rfl, ?_⟩
      rw [← Option.some.inj e]; simp
    · rename_i i j
      obtain ⟨rfl, _⟩ := r1.bo
      obtain ⟨rfl, _⟩ := r2.bo
      refine .inl ⟨rfl, ?_⟩
      rw [← Option.some.inj e]; simp
    · exact .inr (deep r1 r2 e)
  constructor
  · intro pins s σ H x y v u Q I rx ry ⟨p, d1, g1, q, d2, g2, c, r1, r2, e, h⟩
    rcases main r1 r2 e with ⟨h1, h2⟩ | ⟨h1, h2, h3, h4, h5⟩
    · exact op_eq pins s σ H x y v u Q I rx ry ⟨h1, h2 ▸ h⟩
    · exact op_eqD hu pins s σ H x y v u Q I rx ry ⟨d1, d2, h1, h2, h3, h4, by rw [h5]; exact h⟩
  · intro pins s σ H x y v u Q I rx ry ⟨p, d1, g1, q, d2, g2, c, r1, r2, e, h⟩
    obtain ⟨c', e', rfl⟩ := Option.map_eq_some_iff.mp e
    rcases main r1 r2 e' with ⟨h1, h2⟩ | ⟨h1, h2, h3, h4, h5⟩
    · exact op_ne pins s σ H x y v u Q I rx ry ⟨h1, h2 ▸ h⟩
    · exact op_neD hu pins s σ H x y v u Q I rx ry ⟨d1, d2, h1, h2, h3, h4, by rw [h5]; exact h⟩
theorem ltI_some {x y : D} {c : Bool} (e : ltI x y = some c) : ∃ i j, x = .int i ∧ y = .int j ∧ c = decide (i < j) := by
  unfold ltI at e
  split at e
  · exact ⟨_, _, rfl, rfl, (Option.some.inj e).symm⟩
  · cases e
theorem c_lt (hu : X.A.units + 64 < cLine) : OpR X (compareOp .Lt) (rBl X.K ltD) := by
  intro pins s σ H x y v u Q I rx ry ⟨p, d1, g1, q, d2, g2, c, r1, r2, e, h⟩
  unfold ltD at e
  split at e
  · rename_i i j
    cases e
    exact op_lt pins s σ H x y v u Q I rx ry ⟨i, j, r1.i.1, r2.i.1, h⟩
  · rename_i xs ys
    split at e
    · rename_i hs
      simp only [Bool.and_eq_true] at hs
      obtain ⟨⟨ha, s1⟩, s2⟩ := hs
      cases e
      obtain ⟨as, q1⟩ := Dp.reads I _ x v (r1.dps s1) rx
      obtain ⟨bs, q2⟩ := Dp.reads I _ y u (r2.dps s2) ry
      have room : X.A.units + min (PyData.tuple xs).depth (PyData.tuple ys).depth < cLine := SeqAt.room_of_shaped s1 hu
      exact PySem.W.rcLt_alike _ _ X.A s v u as bs q1 q2 ha (fun z => nomatch z) room _ _ _ _ ⟨.bl _, H, I, rfl, h⟩
    · cases e
  · cases e
theorem ltD_some {x y : D} {c : Bool} (e : ltD x y = some c) : (∃ i j, x = .int i ∧ y = .int j ∧ c = decide (i < j)) ∨ (∃ xs ys, x = .tuple xs ∧ y = .tuple ys ∧ PySem.W.alike (.tuple xs) (.tuple ys) = true ∧ SeqAt.shaped (.tuple xs) = true ∧ SeqAt.shaped (.tuple ys) = true ∧ c = PySem.W.dataLt (.tuple xs) (.tuple ys)) := by
  unfold ltD at e
  split at e
  · exact .inl ⟨_, _, rfl, rfl, (Option.some.inj e).symm⟩
  · split at e
    · rename_i hs
      simp only [Bool.and_eq_true] at hs
      exact .inr ⟨_, _, rfl, rfl, hs.1.1, hs.1.2, hs.2, (Option.some.inj e).symm⟩
    · cases e
  · cases e
theorem not_lt_le (i j : Int) : decide (j ≤ i) = !decide (i < j) := by
  rw [Bool.eq_iff_iff]; simp
theorem c_gt (hu : X.A.units + 64 < cLine) : OpR X (compareOp .Gt) (rBl X.K fun x y => ltD y x) := by
  intro pins s σ H x y v u Q I rx ry ⟨p, d1, g1, q, d2, g2, c, r1, r2, e, h⟩
  rcases ltD_some e with ⟨i, j, rfl, rfl, rfl⟩ | ⟨xs, ys, rfl, rfl, ha, s1, s2, rfl⟩
  · exact op_gt pins s σ H x y v u Q I rx ry ⟨j, i, r1.i.1, r2.i.1, h⟩
  · obtain ⟨as, q1⟩ := Dp.reads I _ x v (r1.dps s2) rx
    obtain ⟨bs, q2⟩ := Dp.reads I _ y u (r2.dps s1) ry
    have room : X.A.units + min (PyData.tuple ys).depth (PyData.tuple xs).depth < cLine := SeqAt.room_of_shaped s2 hu
    exact PySem.W.gt_data q1 q2 (by rw [PySem.W.alike_comm]; exact ha) (fun z => nomatch z) room ⟨.bl _, H, I, rfl, h⟩
theorem c_le (hu : X.A.units + 64 < cLine) : OpR X (compareOp .LtE) (rBl X.K fun x y => (ltD y x).map (!·)) := by
  intro pins s σ H x y v u Q I rx ry ⟨p, d1, g1, q, d2, g2, c, r1, r2, e, h⟩
  obtain ⟨c', e', rfl⟩ := Option.map_eq_some_iff.mp e
  rcases ltD_some e' with ⟨i, j, rfl, rfl, rfl⟩ | ⟨xs, ys, rfl, rfl, ha, s1, s2, rfl⟩
  · refine op_le pins s σ H x y v u Q I rx ry ⟨j, i, r1.i.1, r2.i.1, ?_⟩
    show Q (.bl (decide (j ≤ i))) H
    rw [not_lt_le]; exact h
  · obtain ⟨as, q1⟩ := Dp.reads I _ x v (r1.dps s2) rx
    obtain ⟨bs, q2⟩ := Dp.reads I _ y u (r2.dps s1) ry
    have room : X.A.units + min (PyData.tuple ys).depth (PyData.tuple xs).depth < cLine := SeqAt.room_of_shaped s2 hu
    exact PySem.W.le_data q1 q2 (by rw [PySem.W.alike_comm]; exact ha) (fun z => nomatch z) room ⟨.bl _, H, I, rfl, h⟩
theorem c_ge (hu : X.A.units + 64 < cLine) : OpR X (compareOp .GtE) (rBl X.K fun x y => (ltD x y).map (!·)) := by
  intro pins s σ H x y v u Q I rx ry ⟨p, d1, g1, q, d2, g2, c, r1, r2, e, h⟩
  obtain ⟨c', e', rfl⟩ := Option.map_eq_some_iff.mp e
  rcases ltD_some e' with ⟨i, j, rfl, rfl, rfl⟩ | ⟨xs, ys, rfl, rfl, ha, s1, s2, rfl⟩
  · refine op_ge pins s σ H x y v u Q I rx ry ⟨i, j, r1.i.1, r2.i.1, ?_⟩
    show Q (.bl (decide (j ≤ i))) H
    rw [not_lt_le]; exact h
  · obtain ⟨as, q1⟩ := Dp.reads I _ x v (r1.dps s1) rx
    obtain ⟨bs, q2⟩ := Dp.reads I _ y u (r2.dps s2) ry
    have room : X.A.units + min (PyData.tuple xs).depth (PyData.tuple ys).depth < cLine := SeqAt.room_of_shaped s1 hu
    exact PySem.W.ge_data q1 q2 ha (fun z => nomatch z) room ⟨.bl _, H, I, rfl, h⟩

/-- what a dict that stands for these data holds -/
theorem eqv_kD : ∀ k k' : Key, PyData.eqv (kD k) (kD k') = decide (k = k')
  | .inl i, .inl j => by simp [kD, PyData.eqv, Bool.beq_eq_decide_eq]
  | .inl i, .inr j => by simp [kD, PyData.eqv]
  | .inr i, .inl j => by simp [kD, PyData.eqv]
  | .inr i, .inr j => by simp [kD, PyData.eqv, Bool.beq_eq_decide_eq]
theorem eqvAll_kD : ∀ k k' : List Key, PyData.eqvAll (k.map kD) (k'.map kD) = decide (k = k')
  | [], [] => by simp [PyData.eqvAll]
  | [], _ :: _ => by simp [PyData.eqvAll]
  | _ :: _, [] => by simp [PyData.eqvAll]
  | a :: r, b :: t => by
    simp only [List.map_cons, PyData.eqvAll, eqv_kD, eqvAll_kD r t]
    rw [Bool.eq_iff_iff]; simp
theorem eqv_tD (k k' : List Key) : PyData.eqv (tD k) (tD k') = decide (k = k') := by
  simp only [tD, PyData.eqv]; exact eqvAll_kD k k'
theorem valV_dGet {κ : Type} [DecidableEq κ] {enc : κ → D} (he : ∀ k k', PyData.eqv (enc k) (enc k') = decide (k = k')) {K : PySem.W.Frag} {H : Hp} {b : Bool} (k : κ) :
    ∀ {kvs : List (κ × V)} {ds : List (D × D)} {fs : List Addr}, kvs.map (fun p => enc p.1) = ds.map (·.1) → Reps K H b (kvs.map (·.2)) (ds.map (·.2)) fs →
      (valV kvs k = none ∧ dGet ds (enc k) = none) ∨ ∃ v d g, valV kvs k = some v ∧ dGet ds (enc k) = some d ∧ Rep K H b v d g ∧ ∀ a ∈ g, a ∈ fs
  | [], [], _, _, _ => .inl ⟨rfl, rfl⟩
  | [], _ :: _, _, e, _ => by simp at e
  | _ :: _, [], _, e, _ => by simp at e
  | (k1, v1) :: r, (d1, x1) :: t, fs, e, h => by
    simp only [List.map_cons, List.cons.injEq] at e
    obtain ⟨e1, e2⟩ := e
    subst e1
    cases h with
    | cons h1 h2 =>
      by_cases hk : k1 = k
      · subst hk
        refine .inr ⟨v1, x1, _, valV_pos rfl, ?_, h1, fun a m => List.mem_append_left _ m⟩
        simp [dGet, List.find?_cons, he]
      · have hne : PyData.eqv (enc k1) (enc k) = false := by rw [he]; simp [hk]
        rcases valV_dGet he k e2 h2 with ⟨q1, q2⟩ | ⟨v, d, g, q1, q2, q3, q4⟩
        · refine .inl ⟨by rw [valV_neg hk]; exact q1, ?_⟩
          simp only [dGet, List.find?_cons, hne] at q2 ⊢; exact q2
        · refine .inr ⟨v, d, g, by rw [valV_neg hk]; exact q1, ?_, q3, fun a m => List.mem_append_right _ (q4 a m)⟩
          simp only [dGet, List.find?_cons, hne] at q2 ⊢; exact q2
/-- a key as a value of the layer -/
theorem Rep.key {K : PySem.W.Frag} {H : Hp} {b : Bool} {v : V} {d : D} {f : List Addr} (h : Rep K H b v d f) (hk : isKey d = true) : ∃ k : Key, d = kD k ∧ v = kV k := by
  cases d with
  | int i => exact ⟨.inl i, rfl, h.i.1⟩
  | str x => exact ⟨.inr x, rfl, h.s.1⟩
  | _ => exact absurd hk (by simp [isKey])
theorem Reps.keys {K : PySem.W.Frag} {H : Hp} {b : Bool} : ∀ {vs : List V} {ds : List D} {f : List Addr}, Reps K H b vs ds f → ds.all isKey = true → ∃ ks : List Key, ds = ks.map kD ∧ vs = ks.map kV
  | _, _, _, .nil, _ => ⟨[], rfl, rfl⟩
  | _, _, _, .cons r rs, e => by
    rw [List.all_cons, Bool.and_eq_true] at e
    obtain ⟨k, rfl, rfl⟩ := r.key e.1
    obtain ⟨ks, rfl, rfl⟩ := rs.keys e.2
    exact ⟨k :: ks, rfl, rfl⟩
/-- a key as the dict wants it -/
theorem rep_dget {K : PySem.W.Frag} {H : Hp} {b p : Bool} {v y : V} {ds : List (D × D)} {k : D} {f g : List Addr} (h : Rep K H b v (.dict ds) f) (hs : scrOf ds = none) (hk : Rep K H p y k g) (ok : keyFor ds k = true) :
    ∃ a, v = .ref a ∧ ((dGet ds k = none ∧ DGet H a y none) ∨ ∃ d v' g', dGet ds k = some d ∧ DGet H a y (some v') ∧ Rep K H b v' d g' ∧ ∀ x ∈ g', x ∈ f) := by
  rcases h.dn hs with ⟨a, kvs, fs, rfl, ht, ha, he, hr, rfl⟩ | ⟨a, kvs, es, fs, rfl, rfl, ha, he, hr, rfl⟩
  · simp only [keyFor, ht] at ok
    obtain ⟨kk, rfl, rfl⟩ := hk.key (by simpa using ok)
    refine ⟨a, rfl, ?_⟩
    rcases valV_dGet eqv_kD kk he hr with ⟨q1, q2⟩ | ⟨v', d', g', q1, q2, q3, q4⟩
    · exact .inl ⟨q2, .inl ⟨kvs, kk, ha.rd, rfl, q1.symm⟩⟩
    · exact .inr ⟨d', v', g', q2, .inl ⟨kvs, kk, ha.rd, rfl, q1.symm⟩, q3, fun x m => List.mem_cons_of_mem _ (q4 x m)⟩
  · simp only [keyFor, tk, if_true] at ok
    split at ok
    · rename_i xs
      obtain ⟨c, us, rfl, hc, rc⟩ := hk.t
      obtain ⟨ks, rfl, rfl⟩ := rc.keys ok
      have h0 : dGet ((PyData.none, PyData.none) :: es) (.tuple (ks.map kD)) = dGet es (tD ks) := by
        simp [dGet, tD, List.find?_cons, PyData.eqv]
      refine ⟨a, rfl, ?_⟩
      rw [h0]
      rcases valV_dGet eqv_tD ks he hr with ⟨q1, q2⟩ | ⟨v', d', g', q1, q2, q3, q4⟩
      · exact .inl ⟨q2, .inr ⟨kvs, ks, c, ha.rd, rfl, hc, q1.symm⟩⟩
      · exact .inr ⟨d', v', g', q2, .inr ⟨kvs, ks, c, ha.rd, rfl, hc, q1.symm⟩, q3, fun x m => List.mem_cons_of_mem _ (q4 x m)⟩
    · cases ok
end
end Den

set_option Elab.async false
set_option linter.all false
set_option maxRecDepth 100000
/-! DenE: expressions, the plain ones. -/
namespace Den
open PySem PySem.Spec PyProof.Rows L2

section
variable {K : PySem.W.Frag} {H H1 H2 H3 : Hp} {φ : List (List Addr)} {b b1 b2 : Bool} {v v1 v2 : V} {d d1 d2 : D} {g g1 g2 : List Addr}
theorem Got.step (G : Got K H H1 φ b v d g) (s : Same H1 H2) : Got K H H2 φ b v d g := ⟨G.same.trans s, G.rep.same s, G.fr, G.al⟩
theorem Got.pre (s : Same H H1) (G : Got K H1 H2 φ b v d g) : Got K H H2 φ b v d g :=
  ⟨s.trans G.same, G.rep, fun e => ⟨(G.fr e).1, fun a m => s.free ((G.fr e).2 a m)⟩, fun a m => (G.al a m).imp s.free id⟩
theorem Got.sh (G : Got K H H1 φ b v d g) : Got K H H1 φ false v d g := ⟨G.same, G.rep.sh, (fun z => nomatch z), G.al⟩
/-- what two have given, and what is made of them -/
theorem Got.two (G1 : Got K H H1 φ b1 v1 d1 g1) (G2 : Got K H1 H2 φ b2 v2 d2 g2) (s : Same H2 H3) (r : Rep K H3 b v d g) (f1 : b = true → g.Nodup ∧ ∀ a ∈ g, H2 a = none) (f2 : ∀ a ∈ g, H2 a = none ∨ a ∈ g1 ∨ a ∈ g2) : Got K H H3 φ b v d g := by
  refine ⟨(G1.same.trans G2.same).trans s, r, fun e => ⟨(f1 e).1, fun a m => (G1.same.trans G2.same).free ((f1 e).2 a m)⟩, fun a m => ?_⟩
  rcases f2 a m with z | z | z
  · exact .inl ((G1.same.trans G2.same).free z)
  · exact G1.al a z
  · exact (G2.al a z).imp G1.same.free id
theorem Got.one (G1 : Got K H H1 φ b1 v1 d1 g1) (s : Same H1 H3) (r : Rep K H3 b v d g) (f1 : b = true → g.Nodup ∧ ∀ a ∈ g, H1 a = none) (f2 : ∀ a ∈ g, H1 a = none ∨ a ∈ g1) : Got K H H3 φ b v d g := by
  refine ⟨G1.same.trans s, r, fun e => ⟨(f1 e).1, fun a m => G1.same.free ((f1 e).2 a m)⟩, fun a m => ?_⟩
  rcases f2 a m with z | z
  · exact .inl (G1.same.free z)
  · exact G1.al a z
end

section
variable {X : Cx} {cal : Nat → List (Bool × D) → Option (Bool × D)} {a b c e : Expr} {ea eb ec : E} {pos : Pos}

theorem Q_v (i : Nat) {x : Str} (h : PE X (.Name x pos) (tVar i)) : QE X (.Name x pos) (ev cal (.v i) false) := by
  refine pe_imp (q_v i h) fun σ H Q ⟨ρ, φ, b, d, R, e, q⟩ => ⟨ρ, φ, b, d, R, ?_, q⟩
  simpa only [ev, fin, Bool.false_eq_true, if_false] using e
theorem Q_k {v : V} {d : D} (h : PE X e (tC v)) (hd : ∀ b H, Rep X.K H b v d []) : QE X e (ev cal (.k d) false) := by
  refine pe_imp (q_k h hd) fun σ H Q ⟨ρ, φ, b, d, R, e, q⟩ => ⟨ρ, φ, b, d, R, ?_, q⟩
  simpa only [ev, fin, Bool.false_eq_true, if_false] using e
theorem Q_bin {o : Bo} (ha : QE X a (ev cal ea false)) (hb : QE X b (ev cal eb false)) : QE X (.BinOp a (bop o) b pos) (ev cal (.bin o ea eb) false) := by
  refine pe_imp (pe_op (o_bin o) ha hb) fun σ H Q ⟨ρ, φ, bb, d, R, e, q⟩ => ?_
  simp only [ev, fin, Bool.false_eq_true, if_false] at e
  split at e
  · cases e
  rename_i p1 x e1
  split at e
  · cases e
  rename_i p2 y e2
  exact ⟨ρ, φ, p1, x, R, e1, fun v H1 g1 G1 => ⟨ρ, φ, p2, y, R.same G1.same, e2, fun w H2 g2 G2 => ⟨p1, x, g1, p2, y, g2, bb, d, G1.rep.same G2.same, G2.rep, e, fun z H3 g s r f1 f2 => q z H3 g (G1.two G2 s r f1 f2)⟩⟩⟩
theorem Q_neg (ha : QE X a (ev cal ea false)) : QE X (.UnaryOp .USub a pos) (ev cal (.neg ea) false) := by
  refine pe_imp (pe_un un_neg ha) fun σ H Q ⟨ρ, φ, bb, d, R, e, q⟩ => ?_
  simp only [ev, fin, Bool.false_eq_true, if_false] at e
  split at e
  · rename_i p1 i e1
    cases e
    exact ⟨ρ, φ, p1, _, R, e1, fun v H1 g1 G1 => ⟨i, G1.rep.i.1, q _ _ _ (Got.scalar G1.same (.int _))⟩⟩
  · cases e
/-! comparisons: o the operator, its rule by data -/
theorem cmp_q {op : CmpOp} {g : D → D → Option Bool} (ho : OpR X (compareOp op) (rBl X.K g)) (ha : QE X a (ev cal ea false)) (hb : QE X b (ev cal eb false)) (hm : behindInMarks op b = false) {o : Co} (hg : ∀ x y, cmpD o x y = g x y) :
    QE X (.Compare a [op] [b] pos) (ev cal (.cmp o ea eb) false) ∧ QT X (.Compare a [op] [b] pos) (ev cal (.cmp o ea eb) true) := by
  constructor
  · refine pe_imp (pe_cmpR ho ha hb hm) fun σ H Q ⟨ρ, φ, bb, d, R, e, q⟩ => ?_
    simp only [ev, fin, Bool.false_eq_true, if_false] at e
    split at e
    · cases e
    rename_i p1 x e1
    split at e
    · cases e
    rename_i p2 y e2
    simp only [boolD, Option.map_eq_some_iff, Prod.mk.injEq] at e
    obtain ⟨c, ec, rfl, rfl⟩ := e
    rw [hg] at ec
    exact ⟨ρ, φ, p1, x, R, e1, fun v H1 g1 G1 => ⟨ρ, φ, p2, y, R.same G1.same, e2, fun w H2 g2 G2 => ⟨p1, x, g1, p2, y, g2, c, G1.rep.same G2.same, G2.rep, ec, q _ _ _ (Got.scalar (G1.same.trans G2.same) (.bl _))⟩⟩⟩
  · refine pt_imp (pt_cmpR ho ha hb hm) fun σ H Q ⟨ρ, φ, bb, d, R, e, q⟩ => ?_
    simp only [ev, fin, if_true] at e
    split at e
    · cases e
    rename_i z e0
    split at e0
    · cases e0
    rename_i p1 x e1
    split at e0
    · cases e0
    rename_i p2 y e2
    simp only [boolD, Option.map_eq_some_iff, Prod.mk.injEq] at e0
    obtain ⟨c, ec, rfl⟩ := e0
    simp only [truD, Option.map_some, Option.some.injEq, Prod.mk.injEq, PyData.bool.injEq] at e
    obtain ⟨_, rfl⟩ := e
    rw [hg] at ec
    exact ⟨ρ, φ, p1, x, R, e1, fun v H1 g1 G1 => ⟨ρ, φ, p2, y, R.same G1.same, e2, fun w H2 g2 G2 => ⟨p1, x, g1, p2, y, g2, c, G1.rep.same G2.same, G2.rep, ec, c, rfl, q _ (G1.same.trans G2.same)⟩⟩⟩
theorem chn_q {op op' : CmpOp} {g g' : D → D → Option Bool} (ho : OpR X (compareOp op) (rBl X.K g)) (ho' : OpR X (compareOp op') (rBl X.K g')) (ha : QE X a (ev cal ea false)) (hb : QE X b (ev cal eb false)) (hc : QE X c (ev cal ec false)) (hm : lastMarks [op, op'] [b, c] = false) {o o' : Co} (hg : ∀ x y, cmpD o x y = g x y) (hg' : ∀ x y, cmpD o' x y = g' x y) :
    QE X (.Compare a [op, op'] [b, c] pos) (ev cal (.chn o o' ea eb ec) false) ∧ QT X (.Compare a [op, op'] [b, c] pos) (ev cal (.chn o o' ea eb ec) true) := by
  have main : ∀ (σ : L2.St) (H : Hp) (Q : VK) (ρ : Ev) (φ : List (List Addr)) (k : Bool), EnvR X.K H σ ρ φ → ev cal (.chn o o' ea eb ec) false ρ = some (true, .bool k) → (∀ H', Same H H' → Q (.bl k) H') →
      tChain (rBl X.K g) (rBl X.K g') (tQ X.K (ev cal ea false)) (tQ X.K (ev cal eb false)) (tQ X.K (ev cal ec false)) σ H Q := fun σ H Q ρ φ k R e q => by
    simp only [ev, fin, Bool.false_eq_true, if_false] at e
    split at e
    · cases e
    rename_i p1 x e1
    split at e
    · cases e
    rename_i p2 y e2
    refine ⟨ρ, φ, p1, x, R, e1, fun v H1 g1 G1 => ⟨ρ, φ, p2, y, R.same G1.same, e2, fun w H2 g2 G2 => ?_⟩⟩
    split at e
    · cases e
    · rename_i e3
      cases e
      rw [hg] at e3
      refine ⟨p1, x, g1, p2, y, g2, false, G1.rep.same G2.same, G2.rep, e3, false, rfl, ?_⟩
      rw [if_neg Bool.false_ne_true]
      exact q _ (G1.same.trans G2.same)
    · rename_i e3
      rw [hg] at e3
      split at e
      · cases e
      rename_i p3 z e4
      simp only [boolD, Option.map_eq_some_iff, Prod.mk.injEq, PyData.bool.injEq] at e
      obtain ⟨c', ec', _, rfl⟩ := e
      rw [hg'] at ec'
      refine ⟨p1, x, g1, p2, y, g2, true, G1.rep.same G2.same, G2.rep, e3, true, rfl, ?_⟩
      rw [if_pos rfl]
      exact ⟨ρ, φ, p3, z, R.same (G1.same.trans G2.same), e4, fun u H3 g3 G3 => ⟨p2, y, g2, p3, z, g3, c', G2.rep.same G3.same, G3.rep, ec', q _ ((G1.same.trans G2.same).trans G3.same)⟩⟩
  have sc : ∀ (ρ : Ev) (p : Bool × D), ev cal (.chn o o' ea eb ec) false ρ = some p → ∃ k, p = (true, .bool k) := fun ρ p e => by
    simp only [ev, fin, Bool.false_eq_true, if_false] at e
    split at e
    · cases e
    split at e
    · cases e
    split at e
    · cases e
    · cases e; exact ⟨_, rfl⟩
    · split at e
      · cases e
      simp only [boolD, Option.map_eq_some_iff] at e
      obtain ⟨c', _, rfl⟩ := e
      exact ⟨_, rfl⟩
  constructor
  · refine pe_imp (pe_chain ho ho' ha hb hc hm) fun σ H Q ⟨ρ, φ, bb, d, R, e, q⟩ => ?_
    obtain ⟨k, ek⟩ := sc _ _ e
    rw [ek] at e
    cases ek
    exact main σ H Q ρ φ k R e fun H' s => q _ _ _ (Got.scalar s (.bl _))
  · refine pt_imp (pt_chain ho ho' ha hb hc hm) fun σ H Q ⟨ρ, φ, bb, k, R, e, q⟩ => ?_
    have hf : ev cal (.chn o o' ea eb ec) true ρ = fin true (ev cal (.chn o o' ea eb ec) false ρ) := by simp only [ev, fin, Bool.false_eq_true, if_false]
    rw [hf] at e
    simp only [fin, if_true] at e
    split at e
    · cases e
    rename_i p e0
    obtain ⟨k', rfl⟩ := sc _ _ e0
    simp only [truD, Option.map_some, Option.some.injEq, Prod.mk.injEq, PyData.bool.injEq] at e
    obtain ⟨_, rfl⟩ := e
    exact main σ H _ ρ φ k' R e0 fun H' s => ⟨k', rfl, q _ s⟩

/-- a op1 b op2 c op3 d -/
def tChain3 (r r' r'' : R2) (ta tb tc td : TE) : TE := fun σ H Q => ta σ H fun x H1 => tb σ H1 fun y H2 => r x y H2 fun z H3 => ∃ k, z = .bl k ∧
  (if k = true then tc σ H3 fun w' H4 => r' y w' H4 fun z' H5 => ∃ k', z' = .bl k' ∧ (if k' = true then td σ H5 fun u' H6 => r'' w' u' H6 Q else Q (.bl false) H5) else Q (.bl false) H3)
theorem pe_chain3 {a b c d : Expr} {ta tb tc td : TE} {op op' op'' : CmpOp} {r r' r'' : R2} (ho : OpR X (compareOp op) r) (ho' : OpR X (compareOp op') r') (ho'' : OpR X (compareOp op'') r'') (ha : PE X a ta) (hb : PE X b tb) (hc : PE X c tc) (hd : PE X d td)
    (hm : lastMarks [op, op', op''] [b, c, d] = false) : PE X (.Compare a [op, op', op''] [b, c, d] pos) (tChain3 r r' r'' ta tb tc td) := by
  refine ⟨fun pins s σ H Q I h => ?_⟩
  refine Compare_chain (thn (ha.run pins s σ H _ I h) fun v s1 ⟨x, H1, I1, r1, q1⟩ => chain_link (thn (hb.run pins s1 σ H1 _ I1 q1) fun u s2 ⟨y, H2, I2, r2, q2⟩ =>
    thn (ho pins s2 σ H2 x y v u _ I2 r1 r2 q2) fun d' s3 ⟨z, H3, I3, r3, k, e, q3⟩ => ?_)) hm
  subst e
  cases r3
  refine wpAny_truthy_bool ?_
  cases k with
  | false => exact ite_ff ⟨.bl false, H3, I3, rfl, q3⟩
  | true =>
    refine ite_tt (chain_link (thn (hc.run pins s3 σ H3 _ I3 q3) fun w' s4 ⟨z', H4, I4, r4, q4⟩ => thn (ho' pins s4 σ H4 y z' u w' _ I4 r2 r4 q4) fun d2 s5 ⟨z2, H5, I5, r5, k2, e2, q5⟩ => ?_))
    subst e2
    cases r5
    refine wpAny_truthy_bool ?_
    cases k2 with
    | false => exact ite_ff ⟨.bl false, H5, I5, rfl, q5⟩
    | true => exact ite_tt (chain_last (thn (hd.run pins s5 σ H5 _ I5 q5) fun w2 s6 ⟨z3, H6, I6, r6, q6⟩ => ho'' pins s6 σ H6 z' z3 w' w2 Q I6 r4 r6 q6))
theorem pt_chain3 {a b c d : Expr} {ta tb tc td : TE} {op op' op'' : CmpOp} {r r' r'' : R2} (ho : OpR X (compareOp op) r) (ho' : OpR X (compareOp op') r') (ho'' : OpR X (compareOp op'') r'') (ha : PE X a ta) (hb : PE X b tb) (hc : PE X c tc) (hd : PE X d td)
    (hm : lastMarks [op, op', op''] [b, c, d] = false) : PT X (.Compare a [op, op', op''] [b, c, d] pos) (tTest (tChain3 r r' r'' ta tb tc td)) := by
  refine ⟨fun pins s σ H Q I h => ?_⟩
  refine isTrue_chain (thn (ha.run pins s σ H _ I h) fun v s1 ⟨x, H1, I1, r1, q1⟩ => test_link (thn (hb.run pins s1 σ H1 _ I1 q1) fun u s2 ⟨y, H2, I2, r2, q2⟩ =>
    thn (ho pins s2 σ H2 x y v u _ I2 r1 r2 q2) fun d' s3 ⟨z, H3, I3, r3, k, e, q3⟩ => ?_)) hm
  subst e
  cases r3
  refine wpAny_truthy_bool ?_
  cases k with
  | false =>
    obtain ⟨k', e', q'⟩ := q3
    cases e'
    exact ite_ff ⟨H3, I3, q'⟩
  | true =>
    refine ite_tt (test_link (thn (hc.run pins s3 σ H3 _ I3 q3) fun w' s4 ⟨z', H4, I4, r4, q4⟩ => thn (ho' pins s4 σ H4 y z' u w' _ I4 r2 r4 q4) fun d2 s5 ⟨z2, H5, I5, r5, k2, e2, q5⟩ => ?_))
    subst e2
    cases r5
    refine wpAny_truthy_bool ?_
    cases k2 with
    | false =>
      obtain ⟨k', e', q'⟩ := q5
      cases e'
      exact ite_ff ⟨H5, I5, q'⟩
    | true =>
      refine ite_tt (test_last (thn (hd.run pins s5 σ H5 _ I5 q5) fun w2 s6 ⟨z3, H6, I6, r6, q6⟩ => thn (ho'' pins s6 σ H6 z' z3 w' w2 _ I6 r4 r6 q6) fun d3 s7 ⟨z4, H7, I7, r7, k3, e3, q7⟩ => ?_))
      subst e3
      cases r7
      exact wpAny_truthy_bool ⟨H7, I7, q7⟩
theorem ch3_q {a b c d : Expr} {ea eb ec ed : E} {op op' op'' : CmpOp} {g g' g'' : D → D → Option Bool} (ho : OpR X (compareOp op) (rBl X.K g)) (ho' : OpR X (compareOp op') (rBl X.K g')) (ho'' : OpR X (compareOp op'') (rBl X.K g'')) (ha : QE X a (ev cal ea false)) (hb : QE X b (ev cal eb false)) (hc : QE X c (ev cal ec false)) (hd : QE X d (ev cal ed false)) (hm : lastMarks [op, op', op''] [b, c, d] = false) {o o' o'' : Co} (hg : ∀ x y, cmpD o x y = g x y) (hg' : ∀ x y, cmpD o' x y = g' x y) (hg'' : ∀ x y, cmpD o'' x y = g'' x y) :
    QE X (.Compare a [op, op', op''] [b, c, d] pos) (ev cal (.ch3 o o' o'' ea eb ec ed) false) ∧ QT X (.Compare a [op, op', op''] [b, c, d] pos) (ev cal (.ch3 o o' o'' ea eb ec ed) true) := by
  have main : ∀ (σ : L2.St) (H : Hp) (Q : VK) (ρ : Ev) (φ : List (List Addr)) (k : Bool), EnvR X.K H σ ρ φ → ev cal (.ch3 o o' o'' ea eb ec ed) false ρ = some (true, .bool k) → (∀ H', Same H H' → Q (.bl k) H') →
      tChain3 (rBl X.K g) (rBl X.K g') (rBl X.K g'') (tQ X.K (ev cal ea false)) (tQ X.K (ev cal eb false)) (tQ X.K (ev cal ec false)) (tQ X.K (ev cal ed false)) σ H Q := fun σ H Q ρ φ k R e q => by
    simp only [ev, fin, Bool.false_eq_true, if_false] at e
    split at e
    · cases e
    rename_i p1 x e1
    split at e
    · cases e
    rename_i p2 y e2
    refine ⟨ρ, φ, p1, x, R, e1, fun v H1 g1 G1 => ⟨ρ, φ, p2, y, R.same G1.same, e2, fun w H2 g2 G2 => ?_⟩⟩
    split at e
    · cases e
    · rename_i e3
      cases e
      rw [hg] at e3
      refine ⟨p1, x, g1, p2, y, g2, false, G1.rep.same G2.same, G2.rep, e3, false, rfl, ?_⟩
      rw [if_neg Bool.false_ne_true]
      exact q _ (G1.same.trans G2.same)
    · rename_i e3
      rw [hg] at e3
      split at e
      · cases e
      rename_i p3 z e4
      refine ⟨p1, x, g1, p2, y, g2, true, G1.rep.same G2.same, G2.rep, e3, true, rfl, ?_⟩
      rw [if_pos rfl]
      refine ⟨ρ, φ, p3, z, R.same (G1.same.trans G2.same), e4, fun u H3 g3 G3 => ?_⟩
      split at e
      · cases e
      · rename_i e5
        cases e
        rw [hg'] at e5
        refine ⟨p2, y, g2, p3, z, g3, false, G2.rep.same G3.same, G3.rep, e5, false, rfl, ?_⟩
        rw [if_neg Bool.false_ne_true]
        exact q _ ((G1.same.trans G2.same).trans G3.same)
      · rename_i e5
        rw [hg'] at e5
        split at e
        · cases e
        rename_i p4 t e6
        simp only [boolD, Option.map_eq_some_iff, Prod.mk.injEq, PyData.bool.injEq] at e
        obtain ⟨c', ec', _, rfl⟩ := e
        rw [hg''] at ec'
        refine ⟨p2, y, g2, p3, z, g3, true, G2.rep.same G3.same, G3.rep, e5, true, rfl, ?_⟩
        rw [if_pos rfl]
        exact ⟨ρ, φ, p4, t, R.same ((G1.same.trans G2.same).trans G3.same), e6, fun u2 H4 g4 G4 => ⟨p3, z, g3, p4, t, g4, c', G3.rep.same G4.same, G4.rep, ec', q _ (((G1.same.trans G2.same).trans G3.same).trans G4.same)⟩⟩
  have sc : ∀ (ρ : Ev) (p : Bool × D), ev cal (.ch3 o o' o'' ea eb ec ed) false ρ = some p → ∃ k, p = (true, .bool k) := fun ρ p e => by
    simp only [ev, fin, Bool.false_eq_true, if_false] at e
    split at e
    · cases e
    split at e
    · cases e
    split at e
    · cases e
    · cases e; exact ⟨_, rfl⟩
    · split at e
      · cases e
      split at e
      · cases e
      · cases e; exact ⟨_, rfl⟩
      · split at e
        · cases e
        simp only [boolD, Option.map_eq_some_iff] at e
        obtain ⟨c', _, rfl⟩ := e
        exact ⟨_, rfl⟩
  constructor
  · refine pe_imp (pe_chain3 ho ho' ho'' ha hb hc hd hm) fun σ H Q ⟨ρ, φ, bb, d, R, e, q⟩ => ?_
    obtain ⟨k, ek⟩ := sc _ _ e
    rw [ek] at e
    cases ek
    exact main σ H Q ρ φ k R e fun H' s => q _ _ _ (Got.scalar s (.bl _))
  · refine pt_imp (pt_chain3 ho ho' ho'' ha hb hc hd hm) fun σ H Q ⟨ρ, φ, bb, k, R, e, q⟩ => ?_
    have hf : ev cal (.ch3 o o' o'' ea eb ec ed) true ρ = fin true (ev cal (.ch3 o o' o'' ea eb ec ed) false ρ) := by simp only [ev, fin, Bool.false_eq_true, if_false]
    rw [hf] at e
    simp only [fin, if_true] at e
    split at e
    · cases e
    rename_i p e0
    obtain ⟨k', rfl⟩ := sc _ _ e0
    simp only [truD, Option.map_some, Option.some.injEq, Prod.mk.injEq, PyData.bool.injEq] at e
    obtain ⟨_, rfl⟩ := e
    exact main σ H _ ρ φ k' R e0 fun H' s => ⟨k', rfl, q _ s⟩

/-! truth -/
theorem rep_tru {K : PySem.W.Frag} {H : Hp} {b : Bool} {v : V} {d : D} {g : List Addr} {k : Bool} (r : Rep K H b v d g) (e : truD d = some k) : TruV K v H k := by
  cases d with
  | none => obtain ⟨rfl, _⟩ := r.no; cases e; rfl
  | bool c => obtain ⟨rfl, _⟩ := r.bo; cases e; rfl
  | int i => obtain ⟨rfl, _⟩ := r.i; cases e; rfl
  | str x =>
    obtain ⟨rfl, _⟩ := r.s
    simp only [truD] at e
    split at e
    · rename_i h; cases e; exact ⟨h, rfl⟩
    · cases e
  | list xs =>
    obtain ⟨a, us, fs, rfl, ha, ra, rfl⟩ := r.l
    cases e
    refine .inl ⟨us, .inl ha.rd, ?_⟩
    have := ra.length
    cases us <;> cases xs <;> simp_all
  | tuple xs =>
    obtain ⟨a, us, rfl, ha, ra⟩ := r.t
    cases e
    refine .inr (.inl ⟨us, SqT.of ha, ?_⟩)
    have := ra.length
    cases us <;> cases xs <;> simp_all
  | dict kvs => cases e
theorem Q_tru {E0 : E} (h : QE X e (ev cal E0 false)) (he : ∀ whole, isTrue e X.env whole = (do let v ← whole; standAt e.pos; holding [v] (truthy v))) (hf : ∀ ρ, ev cal E0 true ρ = fin true (ev cal E0 false ρ)) : QT X e (ev cal E0 true) := by
  refine pt_imp (pt_truth h he) fun σ H Q ⟨ρ, φ, bb, k, R, e, q⟩ => ?_
  rw [hf] at e
  simp only [fin, if_true] at e
  split at e
  · cases e
  rename_i p e0
  obtain ⟨k', et, e'⟩ := Option.map_eq_some_iff.mp e
  simp only [Prod.mk.injEq, PyData.bool.injEq] at e'
  obtain ⟨_, rfl⟩ := e'
  exact ⟨ρ, φ, p.1, p.2, R, e0, fun v H1 g1 G1 => ⟨k', rep_tru G1.rep et, q _ G1.same⟩⟩
theorem ev_tru : ∀ (E0 : E) (ρ : Ev), (match E0 with
    | .nt _ => False
    | .an _ _ => False
    | .ro _ _ => False
    | .ite _ _ _ => False
    | _ => True) → ev cal E0 true ρ = fin true (ev cal E0 false ρ) := by
  intro E0 ρ h
  cases E0 <;> first | exact h.elim | simp only [ev, fin, Bool.false_eq_true, if_false]

/-! not, and, or, if -/
theorem Q_nt (ha : QE X a (ev cal ea false)) : QE X (.UnaryOp .Not a pos) (ev cal (.nt ea) false) := by
  refine pe_imp (pe_not ha) fun σ H Q ⟨ρ, φ, bb, d, R, e, q⟩ => ?_
  simp only [ev] at e
  split at e
  · rename_i p1 c e1
    cases e
    exact ⟨ρ, φ, p1, _, R, e1, fun v H1 g1 G1 => ⟨c, G1.rep.bo.1, q _ _ _ (Got.scalar G1.same (.bl _))⟩⟩
  · cases e
theorem T_nt (ha : QT X a (ev cal ea true)) : QT X (.UnaryOp .Not a pos) (ev cal (.nt ea) true) := by
  refine pt_imp (pt_not ha) fun σ H Q ⟨ρ, φ, bb, d, R, e, q⟩ => ?_
  simp only [ev] at e
  split at e
  · rename_i p1 c e1
    cases e
    exact ⟨ρ, φ, p1, _, R, e1, fun H1 s => q _ s⟩
  · cases e
variable {rest : List Expr}
theorem Q_an (ha : QE X a (ev cal ea false)) (hb : QE X (.BoolOp .And (b :: rest) pos) (ev cal eb false)) : QE X (.BoolOp .And (a :: b :: rest) pos) (ev cal (.an ea eb) false) := by
  refine pe_imp (pe_and ha hb) fun σ H Q ⟨ρ, φ, bb, d, R, e, q⟩ => ?_
  simp only [ev] at e
  split at e
  · rename_i p1 e1
    refine ⟨ρ, φ, p1, _, R, e1, fun v H1 g1 G1 => ⟨true, G1.rep.bo.1, ?_⟩⟩
    rw [if_pos rfl]
    exact ⟨ρ, φ, bb, d, R.same G1.same, e, fun w H2 g2 G2 => q _ _ _ (G2.pre G1.same)⟩
  · rename_i p1 e1
    cases e
    refine ⟨ρ, φ, p1, _, R, e1, fun v H1 g1 G1 => ⟨false, G1.rep.bo.1, ?_⟩⟩
    rw [if_neg Bool.false_ne_true]
    exact q _ _ _ (Got.scalar G1.same (.bl _))
  · cases e
theorem Q_ro (ha : QE X a (ev cal ea false)) (hb : QE X (.BoolOp .Or (b :: rest) pos) (ev cal eb false)) : QE X (.BoolOp .Or (a :: b :: rest) pos) (ev cal (.ro ea eb) false) := by
  refine pe_imp (pe_or ha hb) fun σ H Q ⟨ρ, φ, bb, d, R, e, q⟩ => ?_
  simp only [ev] at e
  split at e
  · rename_i p1 e1
    refine ⟨ρ, φ, p1, _, R, e1, fun v H1 g1 G1 => ⟨false, G1.rep.bo.1, ?_⟩⟩
    rw [if_neg Bool.false_ne_true]
    exact ⟨ρ, φ, bb, d, R.same G1.same, e, fun w H2 g2 G2 => q _ _ _ (G2.pre G1.same)⟩
  · rename_i p1 e1
    cases e
    refine ⟨ρ, φ, p1, _, R, e1, fun v H1 g1 G1 => ⟨true, G1.rep.bo.1, ?_⟩⟩
    rw [if_pos rfl]
    exact q _ _ _ (Got.scalar G1.same (.bl _))
  · cases e
theorem Q_one {op : BoolOp} (ha : QE X a (ev cal ea false)) : QE X (.BoolOp op [a] pos) (ev cal ea false) := pe_one ha
def QW (X : Cx) (e : Expr) (f : Ev → Option (Bool × D)) : Prop := PW X e (tT X.K f)
theorem W_an (ha : QT X a (ev cal ea true)) (hb : QW X (.BoolOp .And (b :: rest) pos) (ev cal eb true)) : QW X (.BoolOp .And (a :: b :: rest) pos) (ev cal (.an ea eb) true) := by
  refine pw_imp (pw_and ha hb) fun σ H Q ⟨ρ, φ, bb, d, R, e, q⟩ => ?_
  simp only [ev] at e
  split at e
  · rename_i p1 e1
    refine ⟨ρ, φ, p1, _, R, e1, fun H1 s => ?_⟩
    show ite (true = true) _ _
    rw [if_pos rfl]
    exact ⟨ρ, φ, bb, d, R.same s, e, fun H2 s2 => q _ (s.trans s2)⟩
  · rename_i p1 e1
    cases e
    refine ⟨ρ, φ, p1, _, R, e1, fun H1 s => ?_⟩
    show ite (false = true) _ _
    rw [if_neg Bool.false_ne_true]
    exact q _ s
  · cases e
theorem W_ro (ha : QT X a (ev cal ea true)) (hb : QW X (.BoolOp .Or (b :: rest) pos) (ev cal eb true)) : QW X (.BoolOp .Or (a :: b :: rest) pos) (ev cal (.ro ea eb) true) := by
  refine pw_imp (pw_or ha hb) fun σ H Q ⟨ρ, φ, bb, d, R, e, q⟩ => ?_
  simp only [ev] at e
  split at e
  · rename_i p1 e1
    refine ⟨ρ, φ, p1, _, R, e1, fun H1 s => ?_⟩
    show ite (false = true) _ _
    rw [if_neg Bool.false_ne_true]
    exact ⟨ρ, φ, bb, d, R.same s, e, fun H2 s2 => q _ (s.trans s2)⟩
  · rename_i p1 e1
    cases e
    refine ⟨ρ, φ, p1, _, R, e1, fun H1 s => ?_⟩
    show ite (true = true) _ _
    rw [if_pos rfl]
    exact q _ s
  · cases e
theorem W_one1 (ha : QT X a (ev cal ea true)) : QW X (.BoolOp .And [a] pos) (ev cal ea true) := pw_and1 ha
theorem W_one2 (ha : QT X a (ev cal ea true)) : QW X (.BoolOp .Or [a] pos) (ev cal ea true) := pw_or1 ha
theorem Q_ite (hc : QT X c (ev cal ec true)) (ha : QE X a (ev cal ea false)) (hb : QE X b (ev cal eb false)) : QE X (.IfExp c a b pos) (ev cal (.ite ec ea eb) false) := by
  refine pe_imp (pe_ifExp hc ha hb) fun σ H Q ⟨ρ, φ, bb, d, R, e, q⟩ => ?_
  simp only [ev] at e
  split at e
  · rename_i p1 e1
    refine ⟨ρ, φ, p1, _, R, e1, fun H1 s => ?_⟩
    show ite (true = true) _ _
    rw [if_pos rfl]
    exact ⟨ρ, φ, bb, d, R.same s, e, fun w H2 g2 G2 => q _ _ _ (G2.pre s)⟩
  · rename_i p1 e1
    refine ⟨ρ, φ, p1, _, R, e1, fun H1 s => ?_⟩
    show ite (false = true) _ _
    rw [if_neg Bool.false_ne_true]
    exact ⟨ρ, φ, bb, d, R.same s, e, fun w H2 g2 G2 => q _ _ _ (G2.pre s)⟩
  · cases e

/-! ### items, places, slices -/
theorem atI_rep {K : PySem.W.Frag} {H : Hp} {p : Bool} {us : List V} {xs : List D} {fs : List Addr} {i : Int} {z : D} (r : Reps K H p us xs fs) (e : atI xs i = some z) : ∃ v g, atI us i = some v ∧ Rep K H p v z g ∧ ∀ a ∈ g, a ∈ fs := by
  unfold atI at e ⊢
  rw [r.length]
  cases h : ixN xs.length i with
  | none => rw [h] at e; cases e
  | some j =>
    rw [h] at e
    exact r.get e
/-- an item read: its own if nothing in it may be changed -/
theorem Got.item {K : PySem.W.Frag} {H H1 : Hp} {φ : List (List Addr)} {b : Bool} {v w : V} {d z : D} {g g' : List Addr} {p : Bool} (G : Got K H H1 φ b v d g) (r : Rep K H1 p w z g') (h : ∀ a ∈ g', a ∈ g) : ∃ g2, Got K H H1 φ (fz z) w z g2 := by
  cases hz : fz z with
  | true => exact ⟨[], Got.froz hz G.same r⟩
  | false => exact ⟨g', G.same, r.sh, (fun z => nomatch z), fun a m => G.al a (h a m)⟩
theorem ix_dict (hu : X.A.units + 1 < cLine) : IxR X (fun x y H Q => ∃ a v, x = .ref a ∧ DGet H a y (some v) ∧ Q v H) := by
  intro value slice pins s σ H x y v u Q I rx ry ⟨a, z, ex, g, q⟩ hs
  subst ex
  obtain rfl : v = Value.ref a := rx
  unfold subscriptTail
  refine wpAny_bind ?_
  rw [getitemInPython_of_ne (dict_typeIs I g).not_modules]
  refine wpAny_bind (wpAny_specialOf (dict_typeIs I g) PySem.F.slot_dict_getitem.lookup ?_)
  have fin : wpAny (model X.prog X.w) X.A (subscripted slice false (Value.ref a) u) (fun r s₃ => wpAny (model X.prog X.w) X.A (letTemporaryGo value (Value.ref a) r >>= fun _ => pure r) (EP X pins σ Q) X.xe s₃) X.xe s := by
    rw [hs]
    exact wpAny_operating (d_getItem hu I g ry fun w' s3 I3 rw' => wpAny_bind (wpAny_letTemporaryGo (wpAny_pure ⟨z, H, I3, rw', q⟩)))
  first
    | exact wpAny_pure (wpAny_bind fin)
    | exact wpAny_bind (wpAny_pure (wpAny_bind fin))
    | exact wpAny_bind fin
def rIxD (K : PySem.W.Frag) : R2 := rDat K ixD
theorem ScrAt.sqv {K : PySem.W.Frag} {H : Hp} {a : Addr} {ns : List Int} {i j : Int} (h : ScrAt K H a (ns.map V.int)) (e : atI ns i = some j) : SqL K H a (ns.map V.int) ∧ atI (ns.map V.int) i = some (.int j) := by
  refine ⟨h.sq, ?_⟩
  unfold atI at e ⊢
  rw [List.length_map]
  cases hh : ixN ns.length i with
  | none => rw [hh] at e; cases e
  | some k =>
    rw [hh] at e
    show (ns.map V.int)[k]? = _
    rw [List.getElem?_map, show ns[k]? = some j from e]; rfl
theorem ix_dat (hu : X.A.units + 1 < cLine) : IxR X (rDat X.K ixD) := by
  intro value slice pins s σ H x y v u Q I rx ry ⟨p, d1, g1, q, d2, g2, b, d, r1, r2, e, h⟩ hs
  have fin : ∀ {w : V} {z : D} {p' : Bool} {g : List Addr}, Rep X.K H p' w z g → (∀ a ∈ g, a ∈ g1) → (fz z, z) = (b, d) → Q w H := fun {w z p' g} r hg e => by
    simp only [Prod.mk.injEq] at e
    obtain ⟨e1, e2⟩ := e
    subst e2
    subst e1
    cases hz : fz z with
    | true =>
      rw [hz] at h
      exact h w H [] (Same.refl _) ((r.fz hz).2 true) (fun _ => ⟨List.nodup_nil, fun a m => nomatch m⟩) fun a m => nomatch m
    | false =>
      rw [hz] at h
      exact h w H g (Same.refl _) r.sh (fun z => nomatch z) fun a m => .inr (.inl (hg a m))
  cases d1 with
  | list xs =>
    cases d2 with
    | int i =>
      obtain ⟨z, ez, e⟩ := Option.map_eq_some_iff.mp (show (atI xs i).map (fun z => (fz z, z)) = some (b, d) from e)
      obtain ⟨a, us, fs, rfl, ha, ra, rfl⟩ := r1.l
      obtain ⟨w, g, h1, h2, h3⟩ := atI_rep ra ez
      exact ix_list value slice pins s σ H _ _ v u Q I rx ry ⟨a, us, i, w, rfl, r2.i.1, .inl ha.rd, h1, fin h2 (fun a m => List.mem_cons_of_mem _ (h3 a m)) e⟩ hs
    | _ => exact nomatch e
  | tuple xs =>
    cases d2 with
    | int i =>
      obtain ⟨z, ez, e⟩ := Option.map_eq_some_iff.mp (show (atI xs i).map (fun z => (fz z, z)) = some (b, d) from e)
      obtain ⟨a, us, rfl, ha, ra⟩ := r1.t
      obtain ⟨w, g, h1, h2, h3⟩ := atI_rep ra ez
      exact ix_tup value slice pins s σ H _ _ v u Q I rx ry ⟨a, us, i, w, rfl, r2.i.1, SqT.of ha, h1, fin h2 h3 e⟩ hs
    | _ => exact nomatch e
  | str z =>
    cases d2 with
    | int i =>
      simp only [ixD] at e
      split at e
      · rename_i hl
        obtain ⟨c, ec, e⟩ := Option.map_eq_some_iff.mp e
        exact ix_str value slice pins s σ H _ _ v u Q I rx ry ⟨z, i, c, r1.s.1, r2.i.1, hl, ec, fin (p' := true) (.str _) (fun a m => nomatch m) e⟩ hs
      · cases e
    | _ => exact nomatch e
  | dict kvs =>
    simp only [ixD] at e
    split at e
    · rename_i ns hsc
      split at e
      · rename_i i
        obtain ⟨j, ej, e⟩ := Option.map_eq_some_iff.mp e
        have hb : bxB kvs = false := by
          cases hb : bxB kvs with
          | false => rfl
          | true =>
            have := scrOf_nil hsc hb
            subst this
            simp [atI, ixN] at ej
        obtain ⟨a, rfl, ha, rfl⟩ := r1.dscr hsc hb
        obtain ⟨s1, s2⟩ := ha.sqv ej
        exact ix_list value slice pins s σ H _ _ v u Q I rx ry ⟨a, _, i, _, rfl, r2.i.1, s1, s2, fin (p' := true) (.int _) (fun a m => nomatch m) e⟩ hs
      · cases e
    · rename_i hsc
      split at e
      · rename_i hk
        obtain ⟨z, ez, e⟩ := Option.map_eq_some_iff.mp e
        obtain ⟨a, rfl, hd⟩ := rep_dget r1 hsc r2 hk
        rcases hd with ⟨n1, _⟩ | ⟨z', v', g', n1, n2, n3, n4⟩
        · rw [n1] at ez; cases ez
        · rw [n1] at ez; cases ez
          exact ix_dict hu value slice pins s σ H _ _ v u Q I rx ry ⟨a, v', rfl, n2, fin n3 n4 e⟩ hs
      · cases e
  | _ => cases e
theorem Q_ix (hu : X.A.units + 1 < cLine) (hs : PlainIx b) (ha : QE X a (ev cal ea false)) (hb : QE X b (ev cal eb false)) : QE X (.Subscript a b pos) (ev cal (.ix ea eb) false) := by
  refine pe_imp (pe_ix (ix_dat hu) ha hb hs) fun σ H Q ⟨ρ, φ, bb, d, R, e, q⟩ => ?_
  simp only [ev, fin, Bool.false_eq_true, if_false] at e
  split at e
  · cases e
  rename_i p1 x e1
  split at e
  · cases e
  rename_i p2 y e2
  exact ⟨ρ, φ, p1, x, R, e1, fun v H1 g1 G1 => ⟨ρ, φ, p2, y, R.same G1.same, e2, fun w H2 g2 G2 => ⟨p1, x, g1, p2, y, g2, bb, d, G1.rep.same G2.same, G2.rep, e, fun z H3 g s r f1 f2 => q z H3 g (G1.two G2 s r f1 f2)⟩⟩⟩
/-! in, not in -/
theorem c_in (hu : X.A.units + 65 < cLine) : OpR X (compareOp .In) (rBl X.K (cmpD .inn)) ∧ OpR X (compareOp .NotIn) (rBl X.K (cmpD .nin)) := by
  have hu1 : X.A.units + 1 < cLine := by omega
  have seq : ∀ {x : D} {ys : List D} {c : Bool}, inD x ys = some c → SeqAt.shaped x = true ∧ SeqAt.shaped (.list ys) = true ∧ c = ys.any (fun z => PyData.eqv z x) := fun {x ys c} e => by
    unfold inD at e
    split at e
    · rename_i hs
      obtain ⟨s1, s2⟩ := shaped2 hs
      exact ⟨s1, s2, (Option.some.inj e).symm⟩
    · cases e
  have tup_sh : ∀ {ys : List D}, SeqAt.shaped (.list ys) = true → SeqAt.shaped (.tuple ys) = true := fun {ys} h => by
    simpa [SeqAt.shaped, PyData.canLay0, PyData.depth] using h
  have layAll : ∀ {ys : List D}, SeqAt.shaped (.list ys) = true → PyData.canLayAll0 ys = true := fun {ys} h => by
    have := SeqAt.canLay_of_shaped h
    simpa [PyData.canLay0] using this
  constructor
  · intro pins s σ H x y v u Q I rx ry ⟨p, d1, g1, q, d2, g2, c, r1, r2, e, h⟩
    cases d2 with
    | list ys =>
      have e' : inD d1 ys = some c := by cases d1 <;> exact e
      obtain ⟨s1, s2, rfl⟩ := seq e'
      obtain ⟨as, q1⟩ := Dp.reads I _ y u (r2.dps s2) ry
      obtain ⟨bs, q2⟩ := Dp.reads I _ x v (r1.dps s1) rx
      exact SeqAt.in_list_reads q1 q2 (layAll s2) (SeqAt.canLay_of_shaped s1) (room_in_shaped s1 hu) ⟨.bl _, H, I, rfl, h⟩
    | tuple ys =>
      have e' : inD d1 ys = some c := by cases d1 <;> exact e
      obtain ⟨s1, s2, rfl⟩ := seq e'
      obtain ⟨as, q1⟩ := Dp.reads I _ y u (r2.dps (tup_sh s2)) ry
      obtain ⟨bs, q2⟩ := Dp.reads I _ x v (r1.dps s1) rx
      exact SeqAt.in_tuple_reads q1 q2 (layAll s2) (SeqAt.canLay_of_shaped s1) (room_in_shaped s1 hu) ⟨.bl _, H, I, rfl, h⟩
    | dict kvs =>
      have e' : (if keyFor kvs d1 ∧ scrOf kvs = none then some (dGet kvs d1).isSome else none) = some c := by cases d1 <;> exact e
      split at e'
      · rename_i hk
        cases e'
        obtain ⟨a, rfl, hd⟩ := rep_dget r2 hk.2 r1 hk.1
        cases ry
        rcases hd with ⟨n1, n2⟩ | ⟨z', v', g', n1, n2, n3, n4⟩
        · rw [n1] at h
          exact d_in hu1 I n2 rx fun s3 I3 => ⟨.bl _, H, I3, rfl, h⟩
        · rw [n1] at h
          exact d_in hu1 I n2 rx fun s3 I3 => ⟨.bl _, H, I3, rfl, h⟩
      · cases e'
    | str z =>
      cases d1 with
      | str w =>
        simp only [cmpD] at e
        split at e
        · rename_i hl
          cases e
          obtain ⟨rfl, _⟩ := r1.s
          refine op_in_sign pins s σ H _ _ v u Q I rx ry ⟨w.cps.getD 0 0, z, ?_, r2.s.1, h⟩
          have : w.cps.size = 1 := hl
          obtain ⟨⟨l⟩⟩ := w
          match l, this with
          | [c], _ => rfl
        · cases e
      | _ => exact nomatch e
    | _ => cases d1 <;> exact nomatch e
  · intro pins s σ H x y v u Q I rx ry ⟨p, d1, g1, q, d2, g2, c, r1, r2, e, h⟩
    cases d2 with
    | list ys =>
      have e' : (inD d1 ys).map (!·) = some c := by cases d1 <;> exact e
      obtain ⟨c', e'', rfl⟩ := Option.map_eq_some_iff.mp e'
      obtain ⟨s1, s2, rfl⟩ := seq e''
      obtain ⟨as, q1⟩ := Dp.reads I _ y u (r2.dps s2) ry
      obtain ⟨bs, q2⟩ := Dp.reads I _ x v (r1.dps s1) rx
      exact SeqAt.notIn_list_reads q1 q2 (layAll s2) (SeqAt.canLay_of_shaped s1) (room_in_shaped s1 hu) ⟨.bl _, H, I, rfl, h⟩
    | tuple ys =>
      have e' : (inD d1 ys).map (!·) = some c := by cases d1 <;> exact e
      obtain ⟨c', e'', rfl⟩ := Option.map_eq_some_iff.mp e'
      obtain ⟨s1, s2, rfl⟩ := seq e''
      obtain ⟨as, q1⟩ := Dp.reads I _ y u (r2.dps (tup_sh s2)) ry
      obtain ⟨bs, q2⟩ := Dp.reads I _ x v (r1.dps s1) rx
      exact SeqAt.notIn_tuple_reads q1 q2 (layAll s2) (SeqAt.canLay_of_shaped s1) (room_in_shaped s1 hu) ⟨.bl _, H, I, rfl, h⟩
    | dict kvs =>
      have e' : (if keyFor kvs d1 ∧ scrOf kvs = none then some (dGet kvs d1).isNone else none) = some c := by cases d1 <;> exact e
      split at e'
      · rename_i hk
        cases e'
        obtain ⟨a, rfl, hd⟩ := rep_dget r2 hk.2 r1 hk.1
        cases ry
        rcases hd with ⟨n1, n2⟩ | ⟨z', v', g', n1, n2, n3, n4⟩
        · rw [n1] at h
          exact d_notIn hu1 I n2 rx fun s3 I3 => ⟨.bl _, H, I3, rfl, h⟩
        · rw [n1] at h
          exact d_notIn hu1 I n2 rx fun s3 I3 => ⟨.bl _, H, I3, rfl, h⟩
      · cases e'
    | str z =>
      cases d1 with
      | str w =>
        simp only [cmpD] at e
        split at e
        · rename_i hl
          cases e
          obtain ⟨rfl, _⟩ := r1.s
          refine op_notIn_sign pins s σ H _ _ v u Q I rx ry ⟨w.cps.getD 0 0, z, ?_, r2.s.1, h⟩
          have : w.cps.size = 1 := hl
          obtain ⟨⟨l⟩⟩ := w
          match l, this with
          | [c], _ => rfl
        · cases e
      | _ => exact nomatch e
    | _ => cases d1 <;> exact nomatch e
end
end Den

set_option Elab.async false
set_option linter.all false
set_option maxRecDepth 100000
/-! DenF: arguments, displays, slices. -/
namespace Den
open PySem PySem.Spec PyProof.Rows L2

inductive RepA (K : PySem.W.Frag) (H : Hp) : List (Bool × D) → List V → List (List Addr) → Prop
  | nil : RepA K H [] [] []
  | cons {b : Bool} {d : D} {v : V} {g : List Addr} {ps : List (Bool × D)} {vs : List V} {gs : List (List Addr)} : Rep K H b v d g → RepA K H ps vs gs → RepA K H ((b, d) :: ps) (v :: vs) (g :: gs)
/-- what is owned stands apart from all else -/
def DjA (ps : List (Bool × D)) (gs : List (List Addr)) : Prop := ∀ (i : Nat) d g, ps[i]? = some (true, d) → gs[i]? = some g → g.Nodup ∧ ∀ (j : Nat) h, j ≠ i → gs[j]? = some h → ∀ a ∈ g, a ∉ h
section
variable {K : PySem.W.Frag} {H H' H1 H2 : Hp}
theorem RepA.same {ps : List (Bool × D)} {vs : List V} {gs : List (List Addr)} (s : Same H H') (r : RepA K H ps vs gs) : RepA K H' ps vs gs := by
  induction r with
  | nil => exact .nil
  | cons r _ ih => exact .cons (r.same s) ih
theorem RepA.len {ps : List (Bool × D)} {vs : List V} {gs : List (List Addr)} (r : RepA K H ps vs gs) : vs.length = ps.length ∧ gs.length = ps.length := by
  induction r with
  | nil => exact ⟨rfl, rfl⟩
  | cons r _ ih => exact ⟨congrArg (· + 1) ih.1, congrArg (· + 1) ih.2⟩
theorem RepA.get {ps : List (Bool × D)} {vs : List V} {gs : List (List Addr)} (r : RepA K H ps vs gs) : ∀ (i : Nat) b d, ps[i]? = some (b, d) → ∃ v g, vs[i]? = some v ∧ gs[i]? = some g ∧ Rep K H b v d g := by
  induction r with
  | nil => intro i b d e; cases e
  | cons r _ ih =>
    intro i b d e
    cases i with
    | zero => simp at e; obtain ⟨rfl, rfl⟩ := e; exact ⟨_, _, rfl, rfl, r⟩
    | succ i => exact ih i b d e
theorem RepA.trk {ps : List (Bool × D)} {vs : List V} {gs : List (List Addr)} (r : RepA K H ps vs gs) : ∀ g ∈ gs, ∀ a ∈ g, H a ≠ none := by
  induction r with
  | nil => intro g h; cases h
  | cons r _ ih =>
    intro g h
    rcases List.mem_cons.mp h with e | e
    · subst e; exact r.trk
    · exact ih g e
theorem RepA.envR {ps : List (Bool × D)} {vs : List V} {gs : List (List Addr)} (r : RepA K H ps vs gs) (tb : Tbs K H) : EnvR K H (vs.map some) (ps.map some) gs := by
  refine ⟨by simp [r.len.1], by simp [r.len.2], fun i b d e => ?_, r.trk, tb⟩
  rw [List.getElem?_map] at e
  cases h : ps[i]? with
  | none => rw [h] at e; cases e
  | some p =>
    rw [h] at e
    simp only [Option.map_some, Option.some.injEq] at e
    subst e
    obtain ⟨v, g, h1, h2, h3⟩ := r.get i b d h
    exact ⟨v, g, by rw [List.getElem?_map, h1]; rfl, h2, h3⟩
theorem RepA.sh {ps : List (Bool × D)} {vs : List V} {gs : List (List Addr)} (r : RepA K H ps vs gs) : Reps K H false vs (ps.map (·.2)) gs.flatten := by
  induction r with
  | nil => exact .nil
  | cons r _ ih => exact .cons r.sh ih
theorem RepA.own {ps : List (Bool × D)} {vs : List V} {gs : List (List Addr)} (r : RepA K H ps vs gs) (h : ps.all (·.1) = true) : Reps K H true vs (ps.map (·.2)) gs.flatten := by
  induction r with
  | nil => exact .nil
  | @cons b d v g ps vs gs r _ ih =>
    rw [List.all_cons, Bool.and_eq_true] at h
    have : b = true := h.1
    subst this
    exact .cons r (ih h.2)
theorem DjA.tail {p : Bool × D} {g : List Addr} {ps : List (Bool × D)} {gs : List (List Addr)} (h : DjA (p :: ps) (g :: gs)) : DjA ps gs := fun i d g e1 e2 => by
  obtain ⟨h1, h2⟩ := h (i + 1) d g e1 e2
  exact ⟨h1, fun j k hj e => h2 (j + 1) k (by omega) e⟩
theorem DjA.flat : ∀ {ps : List (Bool × D)} {gs : List (List Addr)}, DjA ps gs → ps.all (·.1) = true → gs.length = ps.length → gs.flatten.Nodup
  | [], [], _, _, _ => List.nodup_nil
  | [], _ :: _, _, _, e => by simp at e
  | _ :: _, [], _, _, e => by simp at e
  | (b, d) :: ps, g :: gs, h, o, e => by
    rw [List.all_cons, Bool.and_eq_true] at o
    have : b = true := o.1
    subst this
    obtain ⟨h1, h2⟩ := h 0 d g rfl rfl
    rw [List.flatten_cons, List.nodup_append]
    refine ⟨h1, h.tail.flat o.2 (by simpa using e), fun a ha c hc z => ?_⟩
    subst z
    obtain ⟨k, hk, hc⟩ := List.mem_flatten.mp hc
    obtain ⟨j, hj⟩ := List.getElem?_of_mem hk
    exact h2 (j + 1) k (by omega) hj a ha hc
theorem DjA.cons {b : Bool} {d : D} {g : List Addr} {ps : List (Bool × D)} {gs : List (List Addr)} (h : DjA ps gs) (h0 : b = true → g.Nodup) (h1 : b = true → ∀ k ∈ gs, ∀ a ∈ g, a ∉ k) (h2 : ∀ (i : Nat) d k, ps[i]? = some (true, d) → gs[i]? = some k → ∀ a ∈ k, a ∉ g) : DjA ((b, d) :: ps) (g :: gs) := by
  intro i d' k e1 e2
  cases i with
  | zero =>
    simp at e1 e2
    obtain ⟨rfl, rfl⟩ := e1
    subst e2
    refine ⟨h0 rfl, fun j k hj e => ?_⟩
    cases j with
    | zero => exact absurd rfl hj
    | succ j => exact h1 rfl k (List.mem_of_getElem? e)
  | succ i =>
    obtain ⟨q1, q2⟩ := h i d' k e1 e2
    refine ⟨q1, fun j m hj e => ?_⟩
    cases j with
    | zero => simp at e; subst e; exact h2 i d' k e1 e2
    | succ j => exact q2 j m (by omega) e

/-- what arguments have given -/
structure GotA (K : PySem.W.Frag) (H H' : Hp) (φ : List (List Addr)) (ps : List (Bool × D)) (vs : List V) (gs : List (List Addr)) : Prop where
  same : Same H H'
  rep : RepA K H' ps vs gs
  dj : DjA ps gs
  fr : ∀ (i : Nat) d g, ps[i]? = some (true, d) → gs[i]? = some g → ∀ a ∈ g, H a = none
  al : ∀ g ∈ gs, ∀ a ∈ g, H a = none ∨ ∃ f ∈ φ, a ∈ f
end

def tA (K : PySem.W.Frag) (f : Ev → Option (List (Bool × D))) : TA := fun σ H Q => ∃ ρ φ ps, EnvR K H σ ρ φ ∧ f ρ = some ps ∧ ∀ vs H' gs, GotA K H H' φ ps vs gs → Q vs H'
def QA (X : Cx) (es : List Expr) (f : Ev → Option (List (Bool × D))) : Prop := PA X es (tA X.K f)
theorem pa_imp {X : Cx} {es : List Expr} {t t' : TA} (h : PA X es t) (w : ∀ σ H Q, t' σ H Q → t σ H Q) : PA X es t' := ⟨fun pos pins s σ H Q I q => h.run pos pins s σ H Q I (w σ H Q q)⟩

def noStar : Expr → Bool
  | .Starred _ _ => false
  | _ => true
theorem star_of {e : Expr} {es : List Expr} {env : Env} (h : noStar e = true) : starEach (e :: es) env = (false, eval e env) :: starEach es env := by
  cases e <;> first | rfl | exact absurd h (by simp [noStar])
theorem star_any {env : Env} : ∀ {es : List Expr} {pos : Pos}, es.all noStar = true → (backTo pos (starEach es env)).any (·.1) = false := by
  intro es
  induction es with
  | nil => intro pos _; rfl
  | cons e r ih =>
    intro pos h
    rw [List.all_cons, Bool.and_eq_true] at h
    rw [star_of h.1]
    simp only [backTo, List.map_cons, List.any_cons, Bool.false_or]
    exact ih h.2

section
variable {X : Cx} {cal : Nat → List (Bool × D) → Option (Bool × D)} {a b c e : Expr} {es : List Expr} {ea eb ec : E} {ess : Es} {pos : Pos}
theorem QA_nil : QA X [] (evs cal .nil) := by
  refine pa_imp pa_nil fun σ H Q ⟨ρ, φ, ps, R, e, q⟩ => ?_
  simp only [evs, Option.some.injEq] at e
  subst e
  exact q [] H [] ⟨Same.refl _, .nil, fun i d g e => (nomatch e), fun i d g e => (nomatch e), fun g m => nomatch m⟩
theorem QA_cons (ha : QE X e (ev cal ea false)) (hr : QA X es (evs cal ess)) (hs : noStar e = true) : QA X (e :: es) (evs cal (.cons ea ess)) := by
  refine pa_imp (pa_cons ha hr (star_of hs)) fun σ H Q ⟨ρ, φ, ps, R, e, q⟩ => ?_
  simp only [evs] at e
  split at e
  · cases e
  rename_i p e1
  obtain ⟨b, d⟩ := p
  split at e
  · cases e
  rename_i ps' e2
  cases e
  refine ⟨ρ, φ, b, d, R, e1, fun v H1 g G1 => ⟨ρ, φ, ps', R.same G1.same, e2, fun vs H2 gs G2 => q (v :: vs) H2 (g :: gs) ?_⟩⟩
  have t1 := G1.rep.trk
  refine ⟨G1.same.trans G2.same, .cons (G1.rep.same G2.same) G2.rep, ?_, fun i d' k e1 e2 a m => ?_, fun k hk a m => ?_⟩
  · refine G2.dj.cons (fun z => (G1.fr z).1) (fun z k hk a m mk => ?_) fun i d' k e1 e2 a m mk => ?_
    · rcases G2.al k hk a mk with z1 | ⟨f, hf, z1⟩
      · exact t1 a m z1
      · exact R.tr f hf a z1 ((G1.fr z).2 a m)
    · exact t1 a mk (G2.fr i d' k e1 e2 a m)
  · cases i with
    | zero =>
      simp at e1 e2
      obtain ⟨rfl, rfl⟩ := e1
      subst e2
      exact (G1.fr rfl).2 a m
    | succ i => exact G1.same.free (G2.fr i d' k e1 e2 a m)
  · rcases List.mem_cons.mp hk with z | z
    · subst z; exact G1.al a m
    · exact (G2.al k z a m).imp G1.same.free id

theorem disp_got {K : PySem.W.Frag} {H H1 : Hp} {φ : List (List Addr)} {ps : List (Bool × D)} {vs : List V} {gs : List (List Addr)} (G : GotA K H H1 φ ps vs gs) :
    ∃ b, b = ps.all (·.1) ∧ Reps K H1 b vs (ps.map (·.2)) gs.flatten ∧ (b = true → gs.flatten.Nodup ∧ ∀ a ∈ gs.flatten, H a = none) ∧ ∀ a ∈ gs.flatten, H a = none ∨ ∃ f ∈ φ, a ∈ f := by
  refine ⟨ps.all (·.1), rfl, ?_, fun h => ⟨G.dj.flat h G.rep.len.2, fun a m => ?_⟩, fun a m => ?_⟩
  · cases h : ps.all (·.1) with
    | true => exact G.rep.own h
    | false => exact G.rep.sh
  · obtain ⟨k, hk, hm⟩ := List.mem_flatten.mp m
    obtain ⟨i, hi⟩ := List.getElem?_of_mem hk
    have hl : i < ps.length := by rw [← G.rep.len.2]; exact (List.getElem?_eq_some_iff.mp hi).1
    have e1 := List.getElem?_eq_getElem hl
    have e2 : (ps[i]).1 = true := List.all_eq_true.mp h _ (List.getElem_mem hl)
    exact G.fr i (ps[i]).2 k (by rw [e1, ← e2]) hi a hm
  · obtain ⟨k, hk, hm⟩ := List.mem_flatten.mp m
    exact G.al k hk a hm
theorem Q_tup {k : Nat} (h : QA X es (evs cal ess)) : QE X (.Tuple es k pos) (ev cal (.tup ess) false) := by
  refine pe_imp (pe_tup h) fun σ H Q ⟨ρ, φ, bb, d, R, e, q⟩ => ?_
  simp only [ev, fin, Bool.false_eq_true, if_false] at e
  split at e
  · cases e
  rename_i ps e1
  split at e
  · rename_i hl
    simp only [Option.some.injEq, Prod.mk.injEq] at e
    obtain ⟨rfl, rfl⟩ := e
    refine ⟨ρ, φ, ps, R, e1, fun vs H1 gs G => ⟨by rw [G.rep.len.1]; exact hl, fun p hp => ?_⟩⟩
    obtain ⟨b, rfl, h1, h2, h3⟩ := disp_got G
    exact q _ _ gs.flatten ⟨G.same.trans (same_new hp), h1.newTup hp, h2, h3⟩
  · cases e
theorem Q_lst (h : QA X es (evs cal ess)) : QE X (.List es pos) (ev cal (.lst ess) false) := by
  refine pe_imp (pe_lst h) fun σ H Q ⟨ρ, φ, bb, d, R, e, q⟩ => ?_
  simp only [ev, fin, Bool.false_eq_true, if_false] at e
  split at e
  · cases e
  rename_i ps e1
  split at e
  · rename_i hl
    simp only [Option.some.injEq, Prod.mk.injEq] at e
    obtain ⟨rfl, rfl⟩ := e
    refine ⟨ρ, φ, ps, R, e1, fun vs H1 gs G => ⟨by rw [G.rep.len.1]; exact hl, fun p hp => ?_⟩⟩
    obtain ⟨b, rfl, h1, h2, h3⟩ := disp_got G
    refine q _ _ (p :: gs.flatten) ⟨G.same.trans (same_new hp), h1.newLst hp, fun z => ⟨List.nodup_cons.mpr ⟨fun m => ?_, (h2 z).1⟩, fun a m => ?_⟩, fun a m => ?_⟩
    · exact h1.trk p m hp
    · rcases List.mem_cons.mp m with m | m
      · subst m; exact G.same.free hp
      · exact (h2 z).2 a m
    · rcases List.mem_cons.mp m with m | m
      · subst m; exact .inl (G.same.free hp)
      · exact h3 a m
  · cases e

/-! ### slices -/
def QO (X : Cx) (e : Option Expr) (f : Ev → Option (Option Int)) : Prop := PO X e (fun σ H Q => ∃ ρ φ i, EnvR X.K H σ ρ φ ∧ f ρ = some i ∧ ∀ H', Same H H' → Q i H')
theorem po_imp {X : Cx} {e : Option Expr} {t t'} (h : PO X e t) (w : ∀ σ H Q, t' σ H Q → t σ H Q) : PO X e t' := ⟨fun pins s σ H Q I q => h.run pins s σ H Q I (w σ H Q q)⟩
theorem QO_no : QO X none (evo cal .no) := by
  refine po_imp po_none fun σ H Q ⟨ρ, φ, i, R, e, q⟩ => ?_
  simp only [evo, Option.some.injEq] at e
  subst e
  exact q _ (Same.refl _)
theorem QO_so (ha : QE X a (ev cal ea false)) : QO X (some a) (evo cal (.so ea)) := by
  refine po_imp (po_some ha) fun σ H Q ⟨ρ, φ, i, R, e, q⟩ => ?_
  simp only [evo] at e
  split at e
  · cases e
  rename_i p x e1
  unfold optI at e
  split at e
  · rename_i j
    cases e
    exact ⟨ρ, φ, p, _, R, e1, fun v H1 g G => ⟨j, G.rep.i.1, q _ G.same⟩⟩
  · cases e
theorem cut_len {K : PySem.W.Frag} {H : Hp} {b : Bool} {vs : List V} {ds : List D} {f : List Addr} (r : Reps K H b vs ds f) (lo hi : Option Int) : ∃ g, Reps K H b (cutV vs lo hi) (cutD ds lo hi) g ∧ ∀ a ∈ g, a ∈ f := by
  unfold cutV cutD
  rw [r.length]
  obtain ⟨g, r1, s1⟩ := r.drop (HT.sIx ds.length 0 lo)
  obtain ⟨g2, r2, s2⟩ := r1.take (HT.sIx ds.length ds.length hi - HT.sIx ds.length 0 lo)
  exact ⟨g2, r2, fun a m => s1.subset (s2.subset m)⟩
def rSlD (K : PySem.W.Frag) : V → Option Int → Option Int → Hp → VK → Prop := fun x lo hi H Q => ∃ p d1 g1 b d, Rep K H p x d1 g1 ∧ slD d1 lo hi = some (b, d) ∧
  ∀ v H' g, Same H H' → Rep K H' b v d g → (b = true → g.Nodup ∧ ∀ a ∈ g, H a = none) → (∀ a ∈ g, H a = none ∨ a ∈ g1) → Q v H'
theorem sl_dat : SlR X (rSlD X.K) := by
  intro pins s σ H x v vl vu lo hi sl Q I rx hs pl pu ⟨p, d1, g1, b, d, r1, e, h⟩
  cases d1 with
  | list xs =>
    simp only [slD, Option.some.injEq, Prod.mk.injEq] at e
    obtain ⟨rfl, rfl⟩ := e
    obtain ⟨a, us, fs, rfl, ha, ra, rfl⟩ := r1.l
    obtain ⟨g, r2, hg⟩ := cut_len ra lo hi
    exact sl_list pins s σ H _ v vl vu lo hi sl Q I rx hs pl pu ⟨a, us, rfl, .inl ha.rd, fun q hq => fin_lst (G := a :: fs) r2 (fun c m => List.mem_cons_of_mem _ (hg c m)) h hq⟩
  | tuple xs =>
    simp only [slD, Option.some.injEq, Prod.mk.injEq] at e
    obtain ⟨rfl, rfl⟩ := e
    obtain ⟨a, us, rfl, ha, ra⟩ := r1.t
    obtain ⟨g, r2, hg⟩ := cut_len ra lo hi
    refine sl_tupA pins s σ H _ v vl vu lo hi sl Q I rx hs pl pu ⟨a, us, rfl, SqT.of ha, fun hw => ?_, fun _ q hq => fin_tup (G := g1) r2 hg h hq⟩
    have hc : cutD xs lo hi = xs := by
      unfold cutD
      rw [ra.length] at hw
      rw [hw.1, hw.2]
      simp
    rw [hc] at h
    exact fin_old (G := g1) r1 (fun a m => m) h
  | str z =>
    simp only [slD] at e
    split at e
    · rename_i hl
      simp only [Option.some.injEq, Prod.mk.injEq] at e
      obtain ⟨rfl, rfl⟩ := e
      exact sl_str pins s σ H _ v vl vu lo hi sl Q I rx hs pl pu ⟨z, r1.s.1, hl, scal_fin (.str _) h⟩
    · cases e
  | _ => cases e
theorem Q_sl {lo hi : Option Expr} {elo ehi : Eo} {p2 : Pos} (ha : QE X a (ev cal ea false)) (hl : QO X lo (evo cal elo)) (hh : QO X hi (evo cal ehi)) : QE X (.Subscript a (.Slice lo hi none p2) pos) (ev cal (.sl ea elo ehi) false) := by
  refine pe_imp (pe_slice sl_dat ha hl hh) fun σ H Q ⟨ρ, φ, bb, d, R, e, q⟩ => ?_
  simp only [ev, fin, Bool.false_eq_true, if_false] at e
  split at e
  · cases e
  rename_i p x e1
  split at e
  · cases e
  rename_i l e2
  split at e
  · cases e
  rename_i u e3
  exact ⟨ρ, φ, p, x, R, e1, fun v H1 g G => ⟨ρ, φ, l, R.same G.same, e2, fun H2 s2 => ⟨ρ, φ, u, R.same (G.same.trans s2), e3, fun H3 s3 =>
    ⟨p, x, g, bb, d, G.rep.same (s2.trans s3), e, fun w H4 g4 s4 r4 f1 f2 => q w H4 g4 ((G.step (s2.trans s3)).one s4 r4 f1 f2)⟩⟩⟩⟩
end
end Den

set_option Elab.async false
set_option linter.all false
set_option maxRecDepth 100000
/-! DenMx: max and min of a tuple of ints; set of a tuple of tuples of ints. -/
namespace Den
open PySem PySem.Spec PyProof.Rows L2
section
variable {prog : Program} {w : World} {A : Around} {E : Value → Shared → Prop} {s : Shared} {l : Addr}
theorem iter_intTuple {xs : Array (Int × Tok)} {Q : Value → Shared → Prop} (hl : s.heap.IsTuple l (intItems xs))
    (h : ∀ s₂ : Shared, s₂ = { s with heap := s.heap.push { cls := .type "tuple_iterator", data := .fields #[.ref l, .int 0 0] } } →
      (s₂.heap.IsTupleIter s.heap.objs.size l 0 ∧ s₂.heap.IsTuple l (intItems xs)) → (∀ b ∈ [s.heap.objs.size, l], b < s₂.heap.objs.size) → l ≠ s.heap.objs.size → Q (.ref s.heap.objs.size) s₂) :
    wpAny (model prog w) A (pyIter (.ref l)) Q E s := by
  have hlt : l < s.heap.objs.size := by obtain ⟨_, e, _⟩ := hl; exact Heap.lt_size e
  refine wpAny_pyIter_tuple hl (h _ rfl ⟨⟨_, Heap.get?_push_size _ rfl, rfl, rfl⟩, hl.push _⟩ (fun b hb => ?_) (Nat.ne_of_lt hlt))
  show b < (s.heap.push _).objs.size
  rw [Heap.size_push]
  rcases List.mem_cons.mp hb with rfl | hb
  · exact Nat.lt_succ_self _
  · rcases List.mem_cons.mp hb with rfl | hb
    · exact Nat.lt_succ_of_lt hlt
    · cases hb
theorem old_keptT {h' : Heap} (hk : ∀ b o, b ∉ [s.heap.objs.size] → (s.heap.push { cls := .type "tuple_iterator", data := .fields #[.ref l, .int 0 0] }).get? b = some o → h'.get? b = some o) :
    ∀ b o, s.heap.get? b = some o → h'.get? b = some o := fun b o e => by
  refine hk b o (fun hm => ?_) (Heap.get?_push_of_some _ e)
  rcases List.mem_cons.mp hm with e1 | hm
  · exact absurd (e1 ▸ Heap.lt_size e) (Nat.lt_irrefl _)
  · cases hm
theorem max_intTuple {xs : Array (Int × Tok)} {Q : Value → Shared → Prop} (hh : A.handled = none) (hl : s.heap.IsTuple l (intItems xs)) (hne : 0 < xs.size)
    (h : ∀ v h' tk, (intItems xs)[argBest (fun i j => decide (numAt xs i > numAt xs j)) (xs.size - 1)]? = some v → (∀ b o, s.heap.get? b = some o → h'.get? b = some o) → Q v { s with heap := h', toks := tk }) :
    wpAny (model prog w) A (call (.builtin "max") [.ref l]) Q E s := by
  refine call_max_walk (iter_intTuple hl fun s₂ e st hfp hlI => ?_)
  subst e
  refine ⟨_, _, _, _, _, _, _, rfl, Walks.tuple (A := A.in1) hh _ l hlI (intItems xs), st, hfp, by simpa [intItems] using hne, CmpOf.ints_gt (numAt xs) (fun _ _ => intItems_at), fun v h' tk hP hk => ?_⟩
  exact h v h' tk (by simpa [intItems] using hP) (old_keptT hk)
theorem min_intTuple {xs : Array (Int × Tok)} {Q : Value → Shared → Prop} (hh : A.handled = none) (hl : s.heap.IsTuple l (intItems xs)) (hne : 0 < xs.size)
    (h : ∀ v h' tk, (intItems xs)[argBest (fun i j => decide (numAt xs i < numAt xs j)) (xs.size - 1)]? = some v → (∀ b o, s.heap.get? b = some o → h'.get? b = some o) → Q v { s with heap := h', toks := tk }) :
    wpAny (model prog w) A (call (.builtin "min") [.ref l]) Q E s := by
  refine call_min_walk (iter_intTuple hl fun s₂ e st hfp hlI => ?_)
  subst e
  refine ⟨_, _, _, _, _, _, _, rfl, Walks.tuple (A := A.in1) hh _ l hlI (intItems xs), st, hfp, by simpa [intItems] using hne, CmpOf.ints_lt (numAt xs) (fun _ _ => intItems_at), fun v h' tk hP hk => ?_⟩
  exact h v h' tk (by simpa [intItems] using hP) (old_keptT hk)
variable {its : List Value} {ns : List Int} {Q : Value → Shared → Prop}
theorem max_rawT (hh : A.handled = none) (hl : s.heap.IsTuple l its.toArray) (hi : IntsAre its ns) (hne : 0 < ns.length)
    (h : ∀ h' tk M t', (∀ b o, s.heap.get? b = some o → h'.get? b = some o) → M ∈ ns → (∀ a, a ∈ ns → a ≤ M) → Q (.int M t') { s with heap := h', toks := tk }) : wpAny (model prog w) A (call (.builtin "max") [.ref l]) Q E s := by
  obtain ⟨xs, e⟩ := hi.allInts.items
  have hn : numsOf (intItems xs).toList = ns := by rw [← e]; exact hi.numsOf
  rw [nums_intItems] at hn
  subst hn
  rw [e] at hl
  have hsz : 0 < xs.size := by simpa using hne
  refine max_intTuple hh hl hsz fun v h' tk hv hk => ?_
  obtain ⟨t, rfl⟩ := intItems_at hv
  obtain ⟨h1, h2⟩ := argBest_gt (numAt xs) (xs.size - 1)
  refine h h' tk _ t hk ?_ fun a ha => ?_
  · rw [numAt_eq]; exact PySem.getD_mem (by rw [List.length_map, Array.length_toList]; omega)
  · obtain ⟨j, hj, rfl⟩ := mem_getD ha
    rw [List.length_map, Array.length_toList] at hj
    rw [← numAt_eq]; exact h2 j (by omega)
theorem min_rawT (hh : A.handled = none) (hl : s.heap.IsTuple l its.toArray) (hi : IntsAre its ns) (hne : 0 < ns.length)
    (h : ∀ h' tk M t', (∀ b o, s.heap.get? b = some o → h'.get? b = some o) → M ∈ ns → (∀ a, a ∈ ns → M ≤ a) → Q (.int M t') { s with heap := h', toks := tk }) : wpAny (model prog w) A (call (.builtin "min") [.ref l]) Q E s := by
  obtain ⟨xs, e⟩ := hi.allInts.items
  have hn : numsOf (intItems xs).toList = ns := by rw [← e]; exact hi.numsOf
  rw [nums_intItems] at hn
  subst hn
  rw [e] at hl
  have hsz : 0 < xs.size := by simpa using hne
  refine min_intTuple hh hl hsz fun v h' tk hv hk => ?_
  obtain ⟨t, rfl⟩ := intItems_at hv
  obtain ⟨h1, h2⟩ := argBest_lt (numAt xs) (xs.size - 1)
  refine h h' tk _ t hk ?_ fun a ha => ?_
  · rw [numAt_eq]; exact PySem.getD_mem (by rw [List.length_map, Array.length_toList]; omega)
  · obtain ⟨j, hj, rfl⟩ := mem_getD ha
    rw [List.length_map, Array.length_toList] at hj
    rw [← numAt_eq]; exact h2 j (by omega)
end
section
variable {X : Cx}
theorem cr_maxT (hc : X.calm = true) : CallR X (.builtin "max") (fun vs H Q => ∃ (a : Addr) (ns : List Int), vs = [V.ref a] ∧ SqT X.K H a (ns.map V.int) ∧ 0 < ns.length ∧ ∀ m, m ∈ ns → (∀ y, y ∈ ns → y ≤ m) → Q (.int m) H) := by
  intro pins s σ H vs us Q I r h
  obtain ⟨a, ns, rfl, hs, hne, q⟩ := h
  obtain ⟨its, rv, hl, _⟩ := I.tuple hs
  rw [Vals.ref1 r]
  exact max_rawT (I.ok.hd hc) hl rv.ints hne fun h' tk m t' hk h1 h2 => ⟨.int _, H, I.kept hk, ⟨_, rfl⟩, q m h1 h2⟩
theorem cr_minT (hc : X.calm = true) : CallR X (.builtin "min") (fun vs H Q => ∃ (a : Addr) (ns : List Int), vs = [V.ref a] ∧ SqT X.K H a (ns.map V.int) ∧ 0 < ns.length ∧ ∀ m, m ∈ ns → (∀ y, y ∈ ns → m ≤ y) → Q (.int m) H) := by
  intro pins s σ H vs us Q I r h
  obtain ⟨a, ns, rfl, hs, hne, q⟩ := h
  obtain ⟨its, rv, hl, _⟩ := I.tuple hs
  rw [Vals.ref1 r]
  exact min_rawT (I.ok.hd hc) hl rv.ints hne fun h' tk m t' hk h1 h2 => ⟨.int _, H, I.kept hk, ⟨_, rfl⟩, q m h1 h2⟩
end
end Den

set_option Elab.async false
set_option linter.all false
set_option maxRecDepth 100000
/-! DenG: the calls of built-in functions. -/
namespace Den
open PySem PySem.Spec PyProof.Rows L2
open PySem.W (EachIs)

/-- a built-in by data -/
def rB (K : PySem.W.Frag) (f : Bi) : List V → Hp → VK → Prop := fun vs H Q => ∃ ps gs b d, RepA K H ps vs gs ∧ biD f ps = some (b, d) ∧
  ∀ v H' g, Same H H' → Rep K H' b v d g → (b = true → g.Nodup ∧ ∀ a ∈ g, H a = none) → (∀ a ∈ g, H a = none ∨ ∃ h ∈ gs, a ∈ h) → Q v H'
section
variable {K : PySem.W.Frag} {H : Hp} {vs : List V} {gs : List (List Addr)}
theorem RepA.n0 (r : RepA K H [] vs gs) : vs = [] ∧ gs = [] := by cases r; exact ⟨rfl, rfl⟩
theorem RepA.n1 {p : Bool} {d : D} (r : RepA K H [(p, d)] vs gs) : ∃ v g, vs = [v] ∧ gs = [g] ∧ Rep K H p v d g := by
  cases r with
  | cons r t => obtain ⟨rfl, rfl⟩ := t.n0; exact ⟨_, _, rfl, rfl, r⟩
theorem RepA.n2 {p q : Bool} {d d' : D} (r : RepA K H [(p, d), (q, d')] vs gs) : ∃ v g v' g', vs = [v, v'] ∧ gs = [g, g'] ∧ Rep K H p v d g ∧ Rep K H q v' d' g' := by
  cases r with
  | cons r t => obtain ⟨_, _, rfl, rfl, h⟩ := t.n1; exact ⟨_, _, _, _, rfl, rfl, r, h⟩
theorem Reps.ints {b : Bool} : ∀ {us : List V} {xs : List D} {f : List Addr} {ns : List Int}, Reps K H b us xs f → intsD xs = some ns → us = ns.map V.int
  | _, _, _, ns, .nil, e => by cases e; rfl
  | _, _, _, ns, .cons (d := d) r rs, e => by
    cases d with
    | int i =>
      obtain ⟨m, h1, rfl⟩ := Option.map_eq_some_iff.mp (show (intsD _).map (i :: ·) = some ns from e)
      rw [r.i.1, rs.ints h1]; rfl
    | _ => exact nomatch e
theorem Reps.bools {b : Bool} : ∀ {us : List V} {xs : List D} {f : List Addr} {ns : List Bool}, Reps K H b us xs f → boolsD xs = some ns → us = ns.map V.bl
  | _, _, _, ns, .nil, e => by cases e; rfl
  | _, _, _, ns, .cons (d := d) r rs, e => by
    cases d with
    | bool i =>
      obtain ⟨m, h1, rfl⟩ := Option.map_eq_some_iff.mp (show (boolsD _).map (i :: ·) = some ns from e)
      rw [r.bo.1, rs.bools h1]; rfl
    | _ => exact nomatch e
theorem Reps.strs {b : Bool} : ∀ {us : List V} {xs : List D} {f : List Addr} {ns : List Str}, Reps K H b us xs f → strsD xs = some ns → us = ns.map V.str
  | _, _, _, ns, .nil, e => by cases e; rfl
  | _, _, _, ns, .cons (d := d) r rs, e => by
    cases d with
    | str i =>
      obtain ⟨m, h1, rfl⟩ := Option.map_eq_some_iff.mp (show (strsD _).map (i :: ·) = some ns from e)
      rw [r.s.1, rs.strs h1]; rfl
    | _ => exact nomatch e
theorem scal_B {Q : VK} {v : V} {d : D} {b : Bool} {d0 : D} (r : ∀ b, Rep K H b v d []) (e : some (true, d) = some (b, d0))
    (q : ∀ v H' g, Same H H' → Rep K H' b v d0 g → (b = true → g.Nodup ∧ ∀ a ∈ g, H a = none) → (∀ a ∈ g, H a = none ∨ ∃ h ∈ gs, a ∈ h) → Q v H') : Q v H := by
  cases e
  exact q v H [] (Same.refl _) (r _) (fun _ => ⟨List.nodup_nil, fun a m => nomatch m⟩) fun a m => nomatch m
end

section
variable {X : Cx}
theorem fr_int {H : Hp} {K : PySem.W.Frag} (i : Int) : ∀ b, Rep K H b (.int i) (.int i) [] := fun b => .int i
theorem fr_bl {H : Hp} {K : PySem.W.Frag} (i : Bool) : ∀ b, Rep K H b (.bl i) (.bool i) [] := fun b => .bl i
theorem b_len (hc : X.calm = true) : CallR X (.builtin "len") (rB X.K .len) := by
  intro pins s σ H xs us Q I r ⟨ps, gs, b, d, ra, e, q⟩
  have run : ∀ {p : Addr} {ys : List V} {n : Nat}, xs = [.ref p] → (SqL X.K H p ys ∨ SqT X.K H p ys) → ys.length = n → (some (true, PyData.int n)) = some (b, d) → wpAny (model X.prog X.w) X.A (call (.builtin "len") us) (EP X pins σ Q) X.xe s := fun {p ys n} hx hs hl e => by
    subst hl
    exact call_len_seq pins s σ H xs us Q I r ⟨p, ys, hx, hs, scal_B (fr_int _) e q⟩
  match ps, e with
  | [(p, .list zs)], e =>
    obtain ⟨v, g, rfl, rfl, r1⟩ := ra.n1
    obtain ⟨a, ws, fs, rfl, ha, rs, rfl⟩ := r1.l
    exact run rfl (.inl (.inl ha.rd)) rs.length e
  | [(p, .tuple zs)], e =>
    obtain ⟨v, g, rfl, rfl, r1⟩ := ra.n1
    obtain ⟨a, ws, rfl, ha, rs⟩ := r1.t
    exact run rfl (.inr (SqT.of ha)) rs.length e
  | [(p, .str z)], e =>
    obtain ⟨v, g, rfl, rfl, r1⟩ := ra.n1
    simp only [biD] at e
    split at e
    · rename_i hl
      exact call_len_str pins s σ H _ us Q I r ⟨z, by rw [r1.s.1], hl, scal_B (fr_int _) e q⟩
    · cases e
  | [(p, .dict kvs)], e =>
    obtain ⟨v, g, rfl, rfl, r1⟩ := ra.n1
    simp only [biD] at e
    split at e
    · rename_i ns hs
      split at e
      · cases e
      rename_i hb
      obtain ⟨a, rfl, ha, rfl⟩ := r1.dscr hs (by simpa using hb)
      exact run rfl (.inl ha.sq) (by rw [List.length_map]) e
    · rename_i hs
      rcases r1.dn hs with ⟨a, ks, fs, rfl, ht, ha, he, hr, rfl⟩ | ⟨a, ks, es, fs, rfl, rfl, ha, he, hr, rfl⟩
      · have hl : (ent kvs).length = ks.length := by
          have := congrArg List.length he
          simp only [List.length_map] at this
          rw [ent, ht]; simpa using this.symm
        rw [hl] at e
        obtain ⟨u, rfl, ru⟩ := vals1 r
        cases ru
        exact d_len I ha.rd fun t s' I' => ⟨.int ks.length, H, I', ⟨t, rfl⟩, scal_B (fr_int _) e q⟩
      · have hl : (ent ((PyData.none, PyData.none) :: es)).length = ks.length := by
          have := congrArg List.length he
          simp only [List.length_map] at this
          simpa [ent, tk] using this.symm
        rw [hl] at e
        obtain ⟨u, rfl, ru⟩ := vals1 r
        obtain rfl : u = .ref a := ru
        obtain ⟨z, hd, ys, rel, dd⟩ := dt_rd I.hok ha.rd
        have hl : ks.length = ys.length := Paired.length rel
        refine call_len_dictH hd dd (by rw [← hl]; rw [sizeLine_eq] at z; omega) ?_
        rw [← hl]
        exact ⟨.int ((ks.length : Nat) : Int), H, I.tok _, ⟨_, rfl⟩, scal_B (fr_int _) e q⟩
theorem b_abs : CallR X (.builtin "abs") (rB X.K .abs) := by
  intro pins s σ H xs us Q I r ⟨ps, gs, b, d, ra, e, q⟩
  match ps, e with
  | [(p, .int i)], e =>
    obtain ⟨v, g, rfl, rfl, r1⟩ := ra.n1
    exact call_abs pins s σ H _ us Q I r ⟨i, by rw [r1.i.1], scal_B (fr_int _) e q⟩
theorem b_int : CallR X (.type "int") (rB X.K .int) := by
  intro pins s σ H xs us Q I r ⟨ps, gs, b, d, ra, e, q⟩
  match ps, e with
  | [(p, .int i)], e =>
    obtain ⟨v, g, rfl, rfl, r1⟩ := ra.n1
    exact call_int1 pins s σ H _ us Q I r (.inl ⟨i, by rw [r1.i.1], scal_B (fr_int _) e q⟩)
  | [(p, .bool i)], e =>
    obtain ⟨v, g, rfl, rfl, r1⟩ := ra.n1
    exact call_int1 pins s σ H _ us Q I r (.inr ⟨i, by rw [r1.bo.1], scal_B (fr_int _) e q⟩)
theorem b_str : CallR X (.type "str") (rB X.K .strI) := by
  intro pins s σ H xs us Q I r ⟨ps, gs, b, d, ra, e, q⟩
  match ps, e with
  | [(p, .bool i)], e =>
    obtain ⟨v, g, rfl, rfl, r1⟩ := ra.n1
    exact call_str_bool pins s σ H _ us Q I r ⟨i, by rw [r1.bo.1], scal_B (fun b => .str _) e q⟩
  | [(p, .int i)], e =>
    obtain ⟨v, g, rfl, rfl, r1⟩ := ra.n1
    simp only [biD] at e
    split at e
    · rename_i hz
      exact call_str_int pins s σ H _ us Q I r ⟨i, by rw [r1.i.1], hz, scal_B (fun b => .str _) e q⟩
    · cases e
theorem b_sum (hc : X.calm = true) : CallR X (.builtin "sum") (rB X.K .sum) := by
  intro pins s σ H xs us Q I r ⟨ps, gs, b, d, ra, e, q⟩
  match ps, e with
  | [(p, .list zs)], e =>
    obtain ⟨v, g, rfl, rfl, r1⟩ := ra.n1
    obtain ⟨a, ws, fs, rfl, ha, rs, rfl⟩ := r1.l
    obtain ⟨ns, h1, h2⟩ := Option.map_eq_some_iff.mp (show (intsD zs).map (fun ns => (true, PyData.int ns.sum)) = some (b, d) from e)
    have := rs.ints h1
    subst this
    exact cr_sum hc pins s σ H _ us Q I r ⟨a, ns, rfl, .inl ha.rd, scal_B (fr_int _) (congrArg some h2) q⟩
  | [(p, .tuple zs)], e =>
    obtain ⟨v, g, rfl, rfl, r1⟩ := ra.n1
    obtain ⟨a, ws, rfl, ha, rs⟩ := r1.t
    obtain ⟨ns, h1, h2⟩ := Option.map_eq_some_iff.mp (show (intsD zs).map (fun ns => (true, PyData.int ns.sum)) = some (b, d) from e)
    have := rs.ints h1
    subst this
    obtain ⟨its, rv, hl, _⟩ := I.tuple (SqT.of ha)
    rw [Vals.ref1 r]
    have hi := rv.ints
    obtain ⟨ys, e2⟩ := hi.allInts.items
    have hn : numsOf (intItems ys).toList = ns := by rw [← e2]; exact hi.numsOf
    rw [nums_intItems] at hn
    rw [e2] at hl
    refine PySem.W.ktm_sumG (I.ok.hd hc) hl fun h' tk t' hk => ?_
    rw [preSum_eq, List.take_of_length_le (by simp), hn]
    exact ⟨.int _, H, I.kept hk, ⟨_, rfl⟩, scal_B (fr_int _) (congrArg some h2) q⟩
theorem maxI_eq {m : Int} : ∀ {ns : List Int}, m ∈ ns → (∀ y ∈ ns, y ≤ m) → maxI ns = m
  | x :: r, hm, hl => by
    have key : ∀ (r : List Int) (x : Int), (m = x ∨ m ∈ r) → x ≤ m → (∀ y ∈ r, y ≤ m) → r.foldl (fun a b => if b > a then b else a) x = m := fun r => by
      induction r with
      | nil => intro x h1 h2 h3; rcases h1 with h1 | h1; exact h1.symm; exact nomatch h1
      | cons y r ih =>
        intro x h1 h2 h3
        rw [List.foldl_cons]
        have hy := h3 y List.mem_cons_self
        refine ih _ ?_ (by split <;> assumption) fun z hz => h3 z (List.mem_cons_of_mem _ hz)
        rcases h1 with h1 | h1
        · subst h1
          rw [if_neg (by omega)]; exact .inl rfl
        · rcases List.mem_cons.mp h1 with h1 | h1
          · subst h1
            split
            · exact .inl rfl
            · left; omega
          · exact .inr h1
    exact key r x (List.mem_cons.mp hm) (hl x List.mem_cons_self) fun y hy => hl y (List.mem_cons_of_mem _ hy)
theorem minI_eq {m : Int} : ∀ {ns : List Int}, m ∈ ns → (∀ y ∈ ns, m ≤ y) → minI ns = m
  | x :: r, hm, hl => by
    have key : ∀ (r : List Int) (x : Int), (m = x ∨ m ∈ r) → m ≤ x → (∀ y ∈ r, m ≤ y) → r.foldl (fun a b => if b < a then b else a) x = m := fun r => by
      induction r with
      | nil => intro x h1 h2 h3; rcases h1 with h1 | h1; exact h1.symm; exact nomatch h1
      | cons y r ih =>
        intro x h1 h2 h3
        rw [List.foldl_cons]
        have hy := h3 y List.mem_cons_self
        refine ih _ ?_ (by split <;> assumption) fun z hz => h3 z (List.mem_cons_of_mem _ hz)
        rcases h1 with h1 | h1
        · subst h1
          rw [if_neg (by omega)]; exact .inl rfl
        · rcases List.mem_cons.mp h1 with h1 | h1
          · subst h1
            split
            · exact .inl rfl
            · left; omega
          · exact .inr h1
    exact key r x (List.mem_cons.mp hm) (hl x List.mem_cons_self) fun y hy => hl y (List.mem_cons_of_mem _ hy)
theorem b_max1 (hc : X.calm = true) : CallR X (.builtin "max") (rB X.K .max1) := by
  intro pins s σ H xs us Q I r ⟨ps, gs, b, d, ra, e, q⟩
  match ps, e with
  | [(p, .list zs)], e =>
    obtain ⟨v, g, rfl, rfl, r1⟩ := ra.n1
    obtain ⟨a, ws, fs, rfl, ha, rs, rfl⟩ := r1.l
    simp only [biD] at e
    split at e
    · cases e
    rename_i hne
    obtain ⟨ns, h1, h2⟩ := Option.map_eq_some_iff.mp e
    have := rs.ints h1
    subst this
    refine cr_max hc pins s σ H _ us Q I r ⟨a, ns, rfl, .inl ha.rd, ?_, fun m hm hle => ?_⟩
    · have := rs.length
      rw [List.length_map] at this
      cases zs with
      | nil => simp at hne
      | cons z t => rw [this]; simp
    · rw [maxI_eq hm hle] at h2
      exact scal_B (fr_int _) (congrArg some h2) q
  | [(p, .tuple zs)], e =>
    obtain ⟨v, g, rfl, rfl, r1⟩ := ra.n1
    obtain ⟨a, ws, rfl, ha, rs⟩ := r1.t
    simp only [biD] at e
    split at e
    · cases e
    rename_i hne
    obtain ⟨ns, h1, h2⟩ := Option.map_eq_some_iff.mp e
    have := rs.ints h1
    subst this
    refine cr_maxT hc pins s σ H _ us Q I r ⟨a, ns, rfl, SqT.of ha, ?_, fun m hm hle => ?_⟩
    · have := rs.length
      rw [List.length_map] at this
      cases zs with
      | nil => simp at hne
      | cons z t => rw [this]; simp
    · rw [maxI_eq hm hle] at h2
      exact scal_B (fr_int _) (congrArg some h2) q
theorem b_min1 (hc : X.calm = true) : CallR X (.builtin "min") (rB X.K .min1) := by
  intro pins s σ H xs us Q I r ⟨ps, gs, b, d, ra, e, q⟩
  match ps, e with
  | [(p, .list zs)], e =>
    obtain ⟨v, g, rfl, rfl, r1⟩ := ra.n1
    obtain ⟨a, ws, fs, rfl, ha, rs, rfl⟩ := r1.l
    simp only [biD] at e
    split at e
    · cases e
    rename_i hne
    obtain ⟨ns, h1, h2⟩ := Option.map_eq_some_iff.mp e
    have := rs.ints h1
    subst this
    refine cr_min hc pins s σ H _ us Q I r ⟨a, ns, rfl, .inl ha.rd, ?_, fun m hm hle => ?_⟩
    · have := rs.length
      rw [List.length_map] at this
      cases zs with
      | nil => simp at hne
      | cons z t => rw [this]; simp
    · rw [minI_eq hm hle] at h2
      exact scal_B (fr_int _) (congrArg some h2) q
  | [(p, .tuple zs)], e =>
    obtain ⟨v, g, rfl, rfl, r1⟩ := ra.n1
    obtain ⟨a, ws, rfl, ha, rs⟩ := r1.t
    simp only [biD] at e
    split at e
    · cases e
    rename_i hne
    obtain ⟨ns, h1, h2⟩ := Option.map_eq_some_iff.mp e
    have := rs.ints h1
    subst this
    refine cr_minT hc pins s σ H _ us Q I r ⟨a, ns, rfl, SqT.of ha, ?_, fun m hm hle => ?_⟩
    · have := rs.length
      rw [List.length_map] at this
      cases zs with
      | nil => simp at hne
      | cons z t => rw [this]; simp
    · rw [minI_eq hm hle] at h2
      exact scal_B (fr_int _) (congrArg some h2) q
theorem b_max2 (hc : X.calm = true) : CallR X (.builtin "max") (rB X.K .max2) := by
  intro pins s σ H xs us Q I r ⟨ps, gs, b, d, ra, e, q⟩
  match ps, e with
  | [(p, .int i), (p', .int j)], e =>
    obtain ⟨v, g, v', g', rfl, rfl, r1, r2⟩ := ra.n2
    exact call_max2 hc pins s σ H _ us Q I r ⟨i, j, by rw [r1.i.1, r2.i.1], scal_B (fr_int _) e q⟩
theorem b_min2 (hc : X.calm = true) : CallR X (.builtin "min") (rB X.K .min2) := by
  intro pins s σ H xs us Q I r ⟨ps, gs, b, d, ra, e, q⟩
  match ps, e with
  | [(p, .int i), (p', .int j)], e =>
    obtain ⟨v, g, v', g', rfl, rfl, r1, r2⟩ := ra.n2
    exact call_min2 hc pins s σ H _ us Q I r ⟨i, j, by rw [r1.i.1, r2.i.1], scal_B (fr_int _) e q⟩
theorem b_list : CallR X (.type "list") (rB X.K .list) := by
  intro pins s σ H xs us Q I r ⟨ps, gs, b, d, ra, e, q⟩
  match ps, e with
  | [(p, .list zs)], e =>
    obtain ⟨v, g, rfl, rfl, r1⟩ := ra.n1
    obtain ⟨a, ws, fs, rfl, ha, rs, rfl⟩ := r1.l
    simp only [biD, Option.some.injEq, Prod.mk.injEq] at e
    obtain ⟨rfl, rfl⟩ := e
    refine call_list_of pins s σ H _ us Q I r ⟨a, ws, rfl, .inl (.inl ha.rd), fun l hl => fin_lst (G := a :: fs) rs (fun c m => List.mem_cons_of_mem _ m) (fun v H' g s1 r1 f1 f2 => q v H' g s1 r1 f1 fun c m => (f2 c m).imp id fun z => ⟨_, List.mem_singleton_self _, z⟩) hl⟩
  | [(p, .tuple zs)], e =>
    obtain ⟨v, g, rfl, rfl, r1⟩ := ra.n1
    obtain ⟨a, ws, rfl, ha, rs⟩ := r1.t
    simp only [biD, Option.some.injEq, Prod.mk.injEq] at e
    obtain ⟨rfl, rfl⟩ := e
    refine call_list_of pins s σ H _ us Q I r ⟨a, ws, rfl, .inr (SqT.of ha), fun l hl => fin_lst (G := g) rs (fun c m => m) (fun v H' g s1 r1 f1 f2 => q v H' g s1 r1 f1 fun c m => (f2 c m).imp id fun z => ⟨_, List.mem_singleton_self _, z⟩) hl⟩
theorem b_tuple : CallR X (.type "tuple") (rB X.K .tuple) := by
  intro pins s σ H xs us Q I r ⟨ps, gs, b, d, ra, e, q⟩
  match ps, e with
  | [(p, .list zs)], e =>
    obtain ⟨v, g, rfl, rfl, r1⟩ := ra.n1
    obtain ⟨a, ws, fs, rfl, ha, rs, rfl⟩ := r1.l
    simp only [biD, Option.some.injEq, Prod.mk.injEq] at e
    obtain ⟨rfl, rfl⟩ := e
    refine call_tuple_of pins s σ H _ us Q I r ⟨a, ws, rfl, .inl ⟨.inl ha.rd, fun l hl => fin_tup (G := a :: fs) rs (fun c m => List.mem_cons_of_mem _ m) (fun v H' g s1 r1 f1 f2 => q v H' g s1 r1 f1 fun c m => (f2 c m).imp id fun z => ⟨_, List.mem_singleton_self _, z⟩) hl⟩⟩
  | [(p, .tuple zs)], e =>
    obtain ⟨v, g, rfl, rfl, r1⟩ := ra.n1
    have r0 := r1
    obtain ⟨a, ws, rfl, ha, rs⟩ := r1.t
    simp only [biD, Option.some.injEq, Prod.mk.injEq] at e
    obtain ⟨rfl, rfl⟩ := e
    refine call_tuple_of pins s σ H _ us Q I r ⟨a, ws, rfl, .inr ⟨SqT.of ha, fin_old (G := g) r0 (fun c m => m) (fun v H' g s1 r1 f1 f2 => q v H' g s1 r1 f1 fun c m => (f2 c m).imp id fun z => ⟨_, List.mem_singleton_self _, z⟩)⟩⟩
theorem b_any (hc : X.calm = true) : CallR X (.builtin "any") (rB X.K .any) := by
  intro pins s σ H xs us Q I r ⟨ps, gs, b, d, ra, e, q⟩
  match ps, e with
  | [(p, .list zs)], e =>
    obtain ⟨v, g, rfl, rfl, r1⟩ := ra.n1
    obtain ⟨a, ws, fs, rfl, ha, rs, rfl⟩ := r1.l
    obtain ⟨ns, h1, h2⟩ := Option.map_eq_some_iff.mp (show (boolsD zs).map (fun ns => (true, PyData.bool (ns.any id))) = some (b, d) from e)
    have := rs.bools h1
    subst this
    exact cr_any hc pins s σ H _ us Q I r ⟨a, ns, rfl, .inl ha.rd, scal_B (fr_bl _) (congrArg some h2) q⟩
  | [(p, .tuple zs)], e =>
    obtain ⟨v, g, rfl, rfl, r1⟩ := ra.n1
    obtain ⟨a, ws, rfl, ha, rs⟩ := r1.t
    obtain ⟨ns, h1, h2⟩ := Option.map_eq_some_iff.mp (show (intsD zs).map (fun ns => (true, PyData.bool (ns.any (· != 0)))) = some (b, d) from e)
    have := rs.ints h1
    subst this
    exact any_tup hc pins s σ H a ns us Q I r (SqT.of ha) (scal_B (fr_bl _) (congrArg some h2) q)
theorem b_gcd : CallR X (.builtin "math.gcd") (rB X.K .gcd) := by
  intro pins s σ H xs us Q I r ⟨ps, gs, b, d, ra, e, q⟩
  match ps, e with
  | [(p, .int i), (p2, .int j)], e =>
    obtain ⟨v, g, v2, g2, rfl, rfl, r1, r2⟩ := ra.n2
    have e1 := r1.i.1
    have e2 := r2.i.1
    subst e1 e2
    exact cr_gcd pins s σ H _ us Q I r ⟨i, j, rfl, scal_B (fr_int _) (show some (true, PyData.int (Nat.gcd i.natAbs j.natAbs : Nat)) = some (b, d) from e) q⟩
theorem b_all (hc : X.calm = true) : CallR X (.builtin "all") (rB X.K .all) := by
  intro pins s σ H xs us Q I r ⟨ps, gs, b, d, ra, e, q⟩
  match ps, e with
  | [(p, .list zs)], e =>
    obtain ⟨v, g, rfl, rfl, r1⟩ := ra.n1
    obtain ⟨a, ws, fs, rfl, ha, rs, rfl⟩ := r1.l
    obtain ⟨ns, h1, h2⟩ := Option.map_eq_some_iff.mp (show (boolsD zs).map (fun ns => (true, PyData.bool (ns.all id))) = some (b, d) from e)
    have := rs.bools h1
    subst this
    exact cr_all hc pins s σ H _ us Q I r ⟨a, ns, rfl, .inl ha.rd, scal_B (fr_bl _) (congrArg some h2) q⟩

theorem depth_in {x : D} : ∀ {xs : List D}, x ∈ xs → x.depth ≤ PyData.depthAll xs
  | y :: r, h => by
    unfold PyData.depthAll
    rcases List.mem_cons.mp h with z | z
    · subst z; exact Nat.le_max_left _ _
    · exact Nat.le_trans (depth_in z) (Nat.le_max_right _ _)
theorem each_of {X : Cx} {pins : List (Addr × Obj)} {σ : L2.St} {H : Hp} {s : Shared} (I : Inv X pins σ H s) : ∀ {us : List V} {xs : List D} {its : List Value}, Reps X.K H true us xs [] → Vals us its → PyData.canLayAll0 xs = true →
    EachIs (fun v d => ∃ u, RelV u v ∧ Rep X.K H true u d []) its xs ∧ EachIs (fun v d => ∃ as, Reads s.heap v (id d) as) its xs := by
  intro us xs its r
  have key : ∀ {us : List V} {xs : List D} {f : List Addr}, Reps X.K H true us xs f → f = [] → ∀ {its : List Value}, Vals us its → PyData.canLayAll0 xs = true →
    EachIs (fun v d => ∃ u, RelV u v ∧ Rep X.K H true u d []) its xs ∧ EachIs (fun v d => ∃ as, Reads s.heap v (id d) as) its xs := fun {us xs f} r => by
    induction us generalizing xs f with
    | nil =>
      cases r
      intro _ its rv _
      cases rv
      exact ⟨.nil, .nil⟩
    | cons u us ih =>
      cases r with
      | @cons _ _ d ds f1 fs1 r1 rs =>
        intro hf its rv hc
        obtain ⟨e1, e2⟩ := List.append_eq_nil_iff.mp hf
        subst e1 e2
        have hc' := Bool.and_eq_true_iff.mp (show (PyData.canLay0 d && PyData.canLayAll0 ds) = true by simpa [PyData.canLayAll0] using hc)
        cases rv with
        | cons rv1 rvs =>
          obtain ⟨a1, a2⟩ := ih rs rfl rvs hc'.2
          exact ⟨.cons ⟨u, rv1, r1⟩ a1, .cons (Dp.reads I d u _ (r1.dp hc'.1) rv1) a2⟩
  exact fun rv hc => key r rfl rv hc
theorem reps_of {K : PySem.W.Frag} {H : Hp} : ∀ {its : List Value} {xs : List D}, EachIs (fun v d => ∃ u, RelV u v ∧ Rep K H true u d []) its xs → ∃ us, Vals us its ∧ Reps K H true us xs []
  | _, _, .nil => ⟨[], .nil, .nil⟩
  | _, _, .cons ⟨u, h1, h2⟩ t => by
    obtain ⟨us, q1, q2⟩ := reps_of t
    exact ⟨u :: us, .cons h1 q1, Reps.cons (f := []) (fs := []) h2 q2⟩
theorem b_sortedL (hu : X.A.units + 70 < cLine) : CallR X (.builtin "sorted") (fun vs H Q => ∃ p zs gs b d, RepA X.K H [(p, .list zs)] vs gs ∧ biD .sorted [(p, .list zs)] = some (b, d) ∧
    ∀ v H' g, Same H H' → Rep X.K H' b v d g → (b = true → g.Nodup ∧ ∀ a ∈ g, H a = none) → (∀ a ∈ g, H a = none ∨ ∃ h ∈ gs, a ∈ h) → Q v H') := by
  intro pins s σ H xs us Q I r ⟨p, zs, gs, b, d, ra, e, q⟩
  match e with
  | e =>
    obtain ⟨v, g, rfl, rfl, r1⟩ := ra.n1
    obtain ⟨a, ws, fs, rfl, ha, rs, rfl⟩ := r1.l
    simp only [biD] at e
    split at e
    · rename_i hz
      obtain ⟨ys, hs, e⟩ := Option.map_eq_some_iff.mp e
      simp only [Prod.mk.injEq] at e
      obtain ⟨rfl, rfl⟩ := e
      unfold sortD at hs
      split at hs
      · rename_i hc
        cases hs
        simp only [Bool.and_eq_true, decide_eq_true_eq] at hc
        obtain ⟨⟨⟨c1, c2⟩, c3⟩, c4⟩ := hc
        have lay : PyData.canLayAll0 zs = true := by simpa [PyData.canLay0] using SeqAt.canLay_of_shaped c3
        have dep : PyData.depthAll zs + 1 ≤ 64 := SeqAt.depth_of_shaped c3
        obtain ⟨its, rv, hl, _⟩ := I.list (.inl ha.rd)
        have rs' := (rs.fz hz).2 true
        obtain ⟨e1, e2⟩ := each_of I rs' rv lay
        rw [Vals.ref1 r]
        have al : PySem.W.AllAlike (zs.map id) := fun x hx y hy => by
          rw [List.map_id] at hx hy
          exact List.all_eq_true.mp (List.all_eq_true.mp c1 x hx) y hy
        have so : PySem.W.Sortable (zs.map id) := by
          rw [List.map_id]
          unfold sortableB at c2
          rw [Bool.or_eq_true] at c2
          rcases c2 with c2 | c2
          · refine .inl fun x hx => ?_
            have := List.all_eq_true.mp c2 x hx
            split at this
            · exact ⟨_, _, rfl⟩
            · cases this
          · refine .inr fun x hx => ?_
            have := List.all_eq_true.mp c2 x hx
            split at this
            · exact ⟨fun z => (nomatch z), fun _ z => (nomatch z)⟩
            · exact ⟨fun z => (nomatch z), fun _ z => (nomatch z)⟩
            · cases this
        refine PySem.W.sorted_data (bs := zs) (enc := id) hl.isList e1 e2 al so (by rw [sizeLine_eq]; exact c4) (fun x hx => by have := depth_in hx; show X.A.units + 2 + x.depth < cLine; omega) fun out ho eo => ?_
        obtain ⟨vs, q1, q2⟩ := reps_of eo
        obtain ⟨ep, he'⟩ := PyProof.Rows.sortedAll_at s.heap its out.toArray
        have hlen : vs.length ≤ sizeLine := by rw [q1.length, ho, sizeLine_eq]; exact c4
        have fr : H (s.heap.objs.size + 1) = none := I.hok.fresh (Nat.le_succ _)
        refine ⟨.ref _, upd H (s.heap.objs.size + 1) (.lst vs), I.laid (t' := s.toks) (fun _ _ => PyProof.Rows.sortedAll_old) (Nat.le_succ _) ⟨hlen, out, ep, q1, he'⟩, rfl, q _ _ [s.heap.objs.size + 1] (same_new fr) (q2.newLst fr) (fun _ => ⟨by simp, fun a m => by rw [List.mem_singleton.mp m]; exact fr⟩) fun a m => .inl (by rw [List.mem_singleton.mp m]; exact fr)⟩
      · cases hs
    · cases e

/-! ### isinstance -/
theorem rep_ty {H : Hp} {b : Bool} {v : V} {d : D} {g : List Addr} {t : String} (r : Rep X.K H b v d g) (e : tyD d = some t) : TyX X.K H v (.type t) := by
  cases d with
  | none => cases e; obtain ⟨rfl, _⟩ := r.no; exact .base .non
  | bool c => cases e; obtain ⟨rfl, _⟩ := r.bo; exact .base (.bl c)
  | int c => cases e; obtain ⟨rfl, _⟩ := r.i; exact .base (.int c)
  | str c => cases e; obtain ⟨rfl, _⟩ := r.s; exact .base (.str c)
  | tuple c => cases e; obtain ⟨a, us, rfl, ha, ra⟩ := r.t; exact .base (.tup ha)
  | list c =>
    cases e
    obtain ⟨a, us, fs, rfl, ha, ra, rfl⟩ := r.l
    rcases ha.rd with h | ⟨o, h⟩
    · exact .base (.lst h)
    · exact .base (.frz h)
  | dict c => cases e
theorem kit_small : ∀ t ∈ ["NoneType", "bool", "int", "str", "tuple", "list"], ∀ u ∈ ["bool", "int", "str", "tuple"], kitB t u = some (t == u || (t == "bool" && u == "int")) := by decide +kernel
theorem tyD_mem {d : D} {t : String} (e : tyD d = some t) : t ∈ ["NoneType", "bool", "int", "str", "tuple", "list"] := by
  cases d <;> cases e <;> simp
def isB : String → Option Bi
  | "int" => some .isInt
  | "bool" => some .isBool
  | "str" => some .isStr
  | "tuple" => some .isTuple
  | _ => none
variable {cal : Nat → List (Bool × D) → Option (Bool × D)} {a b c e : Expr} {es : List Expr} {ea eb ec : E} {ess : Es} {pos p p2 : Pos}
theorem Q_isi {x : Str} {T : String} {f : Bi} (hf : isB T = some f) (hx : bootBuiltins x = some (.type T)) (ha : QE X a (ev cal ea false)) (hs : noStar a = true) (hg : Gl X "isinstance") (hm : X.mg "isinstance" = none) (hg2 : Gl X x) (hm2 : X.mg x = none) (hn : x ≠ "__name__") (hdb : (x == ("__debug__" : Str)) = false) :
    QE X (.Call (.Name "isinstance" p) [a, .Name x p2] [] pos) (ev cal (.bi f (.cons ea .nil)) false) := by
  have hT : T ∈ ["bool", "int", "str", "tuple"] := by
    unfold isB at hf
    split at hf <;> first | (cases hf; done) | (cases hf; simp)
  have hb : ∀ q d, biD f [(q, d)] = isaD d T := fun q d => by
    unfold isB at hf
    split at hf <;> first | (cases hf; done) | (cases hf; rfl)
  refine pe_imp (pe_callB call_isi hg hm (by decide +kernel) (pa_cons ha (pa_cons (pe_bltn (v := .ty T) hg2 hm2 hx rfl hn hdb) pa_nil) (star_of hs)) (he := star_of hs) (hpl := rfl)) fun σ H Q ⟨ρ, φ, bb, d, R, e, q⟩ => ?_
  simp only [ev, fin, Bool.false_eq_true, if_false, evs] at e
  split at e
  · cases e
  rename_i ps e1
  split at e1
  · cases e1
  rename_i pq e2
  obtain ⟨q1, d1⟩ := pq
  cases e1
  rw [hb] at e
  obtain ⟨t, et, e⟩ := Option.map_eq_some_iff.mp e
  simp only [Prod.mk.injEq] at e
  obtain ⟨rfl, rfl⟩ := e
  exact ⟨ρ, φ, q1, d1, R, e2, fun v H1 g G => ⟨v, .ty T, .type t, .type T, _, rfl, .ty T, rep_ty G.rep et, kit_ty (kit_small t (tyD_mem et) T hT), q _ _ _ (Got.scalar G.same (.bl _))⟩⟩

/-! ### a built-in's call -/
theorem bi_got {f : Bi} {id : Value} (hc : CallR X id (rB X.K f)) {ess : Es} {σ : L2.St} {H : Hp} {Q : VK} (h : tQ X.K (ev cal (.bi f ess) false) σ H Q) : tCB (rB X.K f) (tA X.K (evs cal ess)) σ H Q := by
  obtain ⟨ρ, φ, bb, d, R, e, q⟩ := h
  simp only [ev, fin, Bool.false_eq_true, if_false] at e
  split at e
  · cases e
  rename_i ps e1
  refine ⟨ρ, φ, ps, R, e1, fun vs H1 gs G => ⟨ps, gs, bb, d, G.rep, e, fun v H2 g s2 r2 f1 f2 => q v H2 g ⟨G.same.trans s2, r2, fun z => ⟨(f1 z).1, fun a m => G.same.free ((f1 z).2 a m)⟩, fun a m => ?_⟩⟩⟩
  rcases f2 a m with z | ⟨k, hk, z⟩
  · exact .inl (G.same.free z)
  · exact G.al k hk a z
theorem Q_bi {f : Bi} {id : String} {x : Str} (hc : CallR X (.builtin id) (rB X.K f)) (hv : bootBuiltins x = some (.builtin id)) (hg : Gl X x) (hm : X.mg x = none) (hn : x ≠ "__name__") (hdb : (x == ("__debug__" : Str)) = false) (ha : QA X (e :: es) (evs cal ess)) (hs : (e :: es).all noStar = true) :
    QE X (.Call (.Name x p) (e :: es) [] pos) (ev cal (.bi f ess) false) := by
  rw [List.all_cons, Bool.and_eq_true] at hs
  exact pe_imp (pe_callB hc hg hm hv ha hn hdb (star_of hs.1) (star_any hs.2)) fun σ H Q h => bi_got hc h
theorem Q_bf {f : Bi} {id : String} {x : Str} (hc : CallR X (.builtin id) (rB X.K f)) (hg : Gl X x) (hm : X.mg x = some (.builtin id)) (hdb : (x == ("__debug__" : Str)) = false) (ha : QA X (e :: es) (evs cal ess)) (hs : (e :: es).all noStar = true) :
    QE X (.Call (.Name x p) (e :: es) [] pos) (ev cal (.bi f ess) false) := by
  rw [List.all_cons, Bool.and_eq_true] at hs
  exact pe_imp (pe_callBfun hc hg hm ha hdb (star_of hs.1) (star_any hs.2)) fun σ H Q h => bi_got hc h
theorem Q_bt {f : Bi} {id : String} {x : Str} (hc : CallR X (.type id) (rB X.K f)) (hv : bootBuiltins x = some (.type id)) (hg : Gl X x) (hm : X.mg x = none) (hn : x ≠ "__name__") (hdb : (x == ("__debug__" : Str)) = false) (ha : QA X (e :: es) (evs cal ess)) (hs : (e :: es).all noStar = true) :
    QE X (.Call (.Name x p) (e :: es) [] pos) (ev cal (.bi f ess) false) := by
  rw [List.all_cons, Bool.and_eq_true] at hs
  exact pe_imp (pe_callTy hc hg hm hv ha hn hdb (star_of hs.1) (star_any hs.2)) fun σ H Q h => bi_got hc h

/-! ### a def's call -/
def OwnA (ps : List (Bool × D)) (gs : List (List Addr)) (a : Addr) : Prop := ∃ (i : Nat) (d : D) (g : List Addr), ps[i]? = some (true, d) ∧ gs[i]? = some g ∧ a ∈ g
/-- a def's promise: what cal says of it -/
def spF (K : PySem.W.Frag) (cal : List (Bool × D) → Option (Bool × D)) (n : Nat) : Sp := fun vs H Q _ => vs.length = n ∧ ∃ ps gs b d, RepA K H ps vs gs ∧ Tbs K H ∧ DjA ps gs ∧ cal ps = some (b, d) ∧
  ∀ v H' g, (∀ a o, H a = some o → ¬ OwnA ps gs a → KeptAs o (H' a)) → (∀ a, H a ≠ none → H' a ≠ none) → Rep K H' b v d g → (b = true → g.Nodup) → (∀ a ∈ g, H a = none ∨ OwnA ps gs a ∨ (b = false ∧ ∃ h ∈ gs, a ∈ h)) → Q v H'
theorem cal_got {f : Nat} {n : Nat} {E : XK} {σ : L2.St} {H : Hp} {Q : VK} (hl : ∀ ps r, cal f ps = some r → ps.length = n) (h : tQ X.K (ev cal (.cal f ess) false) σ H Q) : tCall (spF X.K (cal f) n) [] E (tA X.K (evs cal ess)) σ H Q := by
  obtain ⟨ρ, φ, bb, d, R, e, q⟩ := h
  simp only [ev, fin, Bool.false_eq_true, if_false] at e
  split at e
  · cases e
  rename_i ps e1
  refine ⟨ρ, φ, ps, R, e1, fun vs H1 gs G => ⟨by rw [List.append_nil, G.rep.len.1]; exact hl ps _ e, ps, gs, bb, d, by rw [List.append_nil]; exact G.rep, R.tb.same G.same, G.dj, e, fun v H2 g k1 k2 r2 f1 f2 => q v H2 g ?_⟩⟩
  have own : ∀ a, OwnA ps gs a → H a = none := fun a ⟨i, d', k, h1, h2, h3⟩ => G.fr i d' k h1 h2 a h3
  refine ⟨fun a o ea => (G.same a o ea).trans fun o' e' => k1 a o' e' fun z => ?_, r2, fun z => ⟨f1 z, fun a m => ?_⟩, fun a m => ?_⟩
  · rw [own a z] at ea; cases ea
  · rcases f2 a m with w | w | ⟨w, _⟩
    · exact G.same.free w
    · exact own a w
    · rw [w] at z; cases z
  · rcases f2 a m with w | w | ⟨_, k, hk, w⟩
    · exact .inl (G.same.free w)
    · exact .inl (own a w)
    · exact G.al k hk a w
theorem Q_cal {f : Nat} {n k : Nat} {fa : Addr} {fd : FuncData} {ps : List Str} {x : Str} {CX : CXT} {E : XK} (F : FnOk X.prog X.w X.K X.mg X.base CX k fa fd ps (spF X.K (cal f) n)) (hr : Room k X.A) (hg : Gl X x) (hm : X.mg x = some (.ref fa)) (hk : PySem.W.keepIn X.K (.ref fa) = true) (hb : Binds X.K fd ps [])
    (hx : Passes CX X E) (hdb : (x == ("__debug__" : Str)) = false) (hl : ∀ ps r, cal f ps = some r → ps.length = n) (ha : QA X (e :: es) (evs cal ess)) (hs : (e :: es).all noStar = true) : QE X (.Call (.Name x p) (e :: es) [] pos) (ev cal (.cal f ess) false) := by
  rw [List.all_cons, Bool.and_eq_true] at hs
  exact pe_imp (pe_call F hr hg hm hk hb .nil hx ha hdb (star_of hs.1) (star_any hs.2)) fun σ H Q h => cal_got hl h
theorem Q_cal0 {f : Nat} {n k : Nat} {fa : Addr} {fd : FuncData} {ps : List Str} {x : Str} {CX : CXT} {E : XK} (F : FnOk X.prog X.w X.K X.mg X.base CX k fa fd ps (spF X.K (cal f) n)) (hr : Room k X.A) (hg : Gl X x) (hm : X.mg x = some (.ref fa)) (hk : PySem.W.keepIn X.K (.ref fa) = true) (hb : Binds X.K fd ps [])
    (hx : Passes CX X E) (hdb : (x == ("__debug__" : Str)) = false) (hl : ∀ ps r, cal f ps = some r → ps.length = n) : QE X (.Call (.Name x p) [] [] pos) (ev cal (.cal f .nil) false) := by
  refine pe_imp (pe_call0 F hr hg hm hk hb .nil hx hdb) fun σ H Q h => ?_
  obtain ⟨ρ, φ, ps, R, e1, w⟩ := cal_got (E := E) hl h
  simp only [evs, Option.some.injEq] at e1
  subst e1
  exact w [] H [] ⟨Same.refl _, .nil, fun i d g e => (nomatch e), fun i d g e => (nomatch e), fun g m => nomatch m⟩
end
end Den

set_option Elab.async false
set_option linter.all false
set_option maxRecDepth 100000
/-! DenGs: sorted of a tuple, of a dict's keys. -/
namespace Den
open PySem PySem.Spec PyProof.Rows L2
open PySem.W (EachIs)

mutual
theorem reads_old {h : Heap} : ∀ (d : D) (v : Value) (as : List Addr), d.canLay0 = true → Reads h v d as → ∀ a ∈ as, h.get? a ≠ none
  | .none, _, _, _, r, _, m => by cases r; cases m
  | .bool _, _, _, _, r, _, m => by cases r; cases m
  | .int _, _, _, _, r, _, m => by cases r; cases m
  | .str _, _, _, _, r, _, m => by cases r; cases m
  | .list xs, _, _, hl, r, a, m => by
    cases r with
    | list h1 h2 h3 h4 =>
      rcases List.mem_cons.mp m with rfl | m
      · rw [h1]; exact fun z => nomatch z
      · exact readsAll_old xs _ _ (by simpa [PyData.canLay0] using hl) h4 a m
  | .tuple xs, _, _, hl, r, a, m => by
    cases r with
    | tuple h1 h2 h3 h4 => exact readsAll_old xs _ _ (by simpa [PyData.canLay0] using hl) h4 a m
  | .dict _, _, _, hl, _, _, _ => by simp [PyData.canLay0] at hl
theorem readsAll_old {h : Heap} : ∀ (ds : List D) (vs : List Value) (as : List Addr), PyData.canLayAll0 ds = true → ReadsAll h vs ds as → ∀ a ∈ as, h.get? a ≠ none
  | [], _, _, _, r, _, m => by cases r; cases m
  | d :: ds, _, _, hl, r, a, m => by
    have hl' := Bool.and_eq_true_iff.mp (show (PyData.canLay0 d && PyData.canLayAll0 ds) = true by simpa [PyData.canLayAll0] using hl)
    cases r with
    | cons h1 h2 =>
      rcases List.mem_append.mp m with m | m
      · exact reads_old d _ _ hl'.1 h1 a m
      · exact readsAll_old ds _ _ hl'.2 h2 a m
end
theorem can_of {ds : List D} (h : PyData.canLayAll0 ds = true) : ∀ d ∈ ds, d.canLay0 = true := by
  induction ds with
  | nil => intro d m; cases m
  | cons x r ih =>
    have h' := Bool.and_eq_true_iff.mp (show (PyData.canLay0 x && PyData.canLayAll0 r) = true by simpa [PyData.canLayAll0] using h)
    intro d m
    rcases List.mem_cons.mp m with rfl | m
    · exact h'.1
    · exact ih h'.2 d m

section
variable {prog : Program} {w : World} {A : Around} {E : Value → Shared → Prop} {s : Shared} {bs : List D} {R : Value → D → Prop} {Good : List Value → Prop}
/-- sorted of whatever is gone through as vs -/
theorem sorted_col {arg : Value} {Q : Value → Shared → Prop} (col : ∀ {R' : List Value → Shared → Prop} {E' : Value → Shared → Prop}, (∀ (h' : Heap) (tk : Nat) (vs : List Value), (∀ b o, s.heap.get? b = some o → h'.get? b = some o) → Good vs → R' vs { s with heap := h', toks := tk }) → wpAny (model prog w) A.in1 (collect arg) R' E' s)
    (each : ∀ vs, Good vs → EachIs R vs bs ∧ EachIs (fun v b => ∃ as, Reads s.heap v (id b) as) vs bs) (hc : PyData.canLayAll0 bs = true) (hal : PySem.W.AllAlike (bs.map id)) (hk : PySem.W.Sortable (bs.map id)) (hL : bs.length ≤ sizeLine) (hu : ∀ b, b ∈ bs → A.units + 2 + (id b).depth < cLine)
    (h : ∀ (h' : Heap) (tk : Nat) (vs out : List Value), (∀ b o, s.heap.get? b = some o → h'.get? b = some o) → out.length = bs.length → EachIs R out (bs.mergeSort (PySem.W.dataLe false id)) →
      Q (.ref h'.objs.size) { s with heap := PyProof.Rows.sortedHeap (h'.push (seqObj "list" vs.toArray 0)) h'.objs.size vs out.toArray, toks := tk }) :
    wpAny (model prog w) A (call (.builtin "sorted") [arg]) Q E s := by
  refine Calls.call_function_entry PyProof.Rows.kind_sorted PyProof.Rows.plain_sorted PyProof.Rows.entry_sorted (PyProof.Rows.args_sorted1 _) ?_
  unfold Builtin.«sorted»
  refine wpAny_bind (m := checkCount "sorted" 1 1 _) (wpAny_pure ?_)
  refine wpAny_bind (col fun h' tk vs hkp hgd => ?_)
  obtain ⟨e, er⟩ := each vs hgd
  refine wpAny_bind (wpAny_newList ?_ (by rw [e.length]; exact hL))
  have hoL : (h'.push (seqObj "list" vs.toArray 0)).get? h'.objs.size = some (seqObj "list" vs.toArray 0) := Heap.get?_push_size _ rfl
  show wpAny _ _ _ _ _ { s with heap := h'.push (seqObj "list" vs.toArray 0), toks := tk }
  have er' : EachIs (fun v b => ∃ as, Reads (h'.push (seqObj "list" vs.toArray 0)) v (id b) as ∧ h'.objs.size ∉ as) vs bs := by
    refine (PySem.W.each_mem er).mono fun v d z => ?_
    obtain ⟨⟨as, r⟩, hd⟩ := z
    refine ⟨as, PyProof.Rows.Reads.keeps (fun b o eb => Heap.get?_push_of_some _ (hkp b o eb)) r, fun m => ?_⟩
    have := reads_old d v as (can_of hc d hd) r _ m
    cases ho : s.heap.get? h'.objs.size with
    | none => exact this ho
    | some o => exact Nat.lt_irrefl _ (Heap.lt_size (hkp _ _ ho))
  refine wpAny_bind (wpAny_holding (PySem.W.list_sort_data (bs := bs) (enc := id) (s := { s with heap := h'.push (seqObj "list" vs.toArray 0), toks := tk }) hoL e er' hal hk hL (fun b hb => ?_) fun out ho eo => ?_))
  · have := hu b hb
    show (A.units + 1) + 1 + (id b).depth < cLine
    omega
  · exact wpAny_pure ⟨_, rfl, h h' tk vs out hkp ho eo⟩
end

theorem sort_ok {zs ys : List D} (hs : sortD zs = some ys) : PyData.canLayAll0 zs = true ∧ PyData.depthAll zs + 1 ≤ 64 ∧ PySem.W.AllAlike (zs.map id) ∧ PySem.W.Sortable (zs.map id) ∧ zs.length ≤ 16777216 ∧ ys = zs.mergeSort (PySem.W.dataLe false id) := by
  unfold sortD at hs
  split at hs
  · rename_i hc
    cases hs
    simp only [Bool.and_eq_true, decide_eq_true_eq] at hc
    obtain ⟨⟨⟨c1, c2⟩, c3⟩, c4⟩ := hc
    refine ⟨by simpa [PyData.canLay0] using SeqAt.canLay_of_shaped c3, SeqAt.depth_of_shaped c3, fun x hx y hy => ?_, ?_, c4, rfl⟩
    · rw [List.map_id] at hx hy
      exact List.all_eq_true.mp (List.all_eq_true.mp c1 x hx) y hy
    · rw [List.map_id]
      unfold sortableB at c2
      rw [Bool.or_eq_true] at c2
      rcases c2 with c2 | c2
      · refine .inl fun x hx => ?_
        have := List.all_eq_true.mp c2 x hx
        split at this
        · exact ⟨_, _, rfl⟩
        · cases this
      · refine .inr fun x hx => ?_
        have := List.all_eq_true.mp c2 x hx
        split at this
        · exact ⟨fun z => (nomatch z), fun _ z => (nomatch z)⟩
        · exact ⟨fun z => (nomatch z), fun _ z => (nomatch z)⟩
        · cases this
  · cases hs

section
variable {X : Cx}
/-- sorted of whatever is gone through: what comes of it -/
theorem sorted_end {pins : List (Addr × Obj)} {σ : L2.St} {H : Hp} {s : Shared} {Q : VK} {arg : Value} {Good : List Value → Prop} {zs ys : List D} {gs : List (List Addr)} (hu : X.A.units + 70 < cLine) (I : Inv X pins σ H s)
    (col : ∀ {R' : List Value → Shared → Prop} {E' : Value → Shared → Prop}, (∀ (h' : Heap) (tk : Nat) (vs : List Value), (∀ b o, s.heap.get? b = some o → h'.get? b = some o) → Good vs → R' vs { s with heap := h', toks := tk }) → wpAny (model X.prog X.w) X.A.in1 (collect arg) R' E' s)
    (hs : sortD zs = some ys) (each : ∀ vs, Good vs → EachIs (fun v d => ∃ u, RelV u v ∧ Rep X.K H true u d []) vs zs ∧ EachIs (fun v d => ∃ as, Reads s.heap v (id d) as) vs zs)
    (q : ∀ v H' g, Same H H' → Rep X.K H' true v (.list ys) g → (true = true → g.Nodup ∧ ∀ a ∈ g, H a = none) → (∀ a ∈ g, H a = none ∨ ∃ h ∈ gs, a ∈ h) → Q v H') :
    wpAny (model X.prog X.w) X.A (call (.builtin "sorted") [arg]) (EP X pins σ Q) X.xe s := by
  obtain ⟨lay, dep, al, so, c4, rfl⟩ := sort_ok hs
  refine sorted_col col each lay al so (by rw [sizeLine_eq]; exact c4) (fun x hx => by have := depth_in hx; show X.A.units + 2 + x.depth < cLine; omega) fun h' tk vs out hk ho eo => ?_
  obtain ⟨us, q1, q2⟩ := reps_of eo
  have I1 : Inv X pins σ H { s with heap := h', toks := tk } := I.kept hk
  have hoL : (h'.push (seqObj "list" vs.toArray 0)).get? h'.objs.size = some (seqObj "list" vs.toArray 0) := Heap.get?_push_size _ rfl
  obtain ⟨ep, he'⟩ := PyProof.Rows.sortedHeap_at (vs := vs) (out := out.toArray) hoL
  have hlen : us.length ≤ sizeLine := by rw [q1.length, ho, sizeLine_eq]; exact c4
  have fr : H h'.objs.size = none := I1.hok.fresh (Nat.le_refl _)
  refine ⟨.ref _, upd H h'.objs.size (.lst us), I1.laid (t' := tk) (fun b u e => ?_) (Nat.le_refl _) ⟨hlen, out, ep, q1, he'⟩, rfl, q _ _ [h'.objs.size] (same_new fr) (q2.newLst fr) (fun _ => ⟨by simp, fun a m => by rw [List.mem_singleton.mp m]; exact fr⟩) fun a m => .inl (by rw [List.mem_singleton.mp m]; exact fr)⟩
  have hb : b < h'.objs.size := Heap.lt_size e
  rw [PyProof.Rows.sortedHeap_old (Nat.ne_of_lt hb) (by rw [size_push']; exact Nat.lt_succ_of_lt hb)]
  exact Heap.get?_push_of_some _ e
theorem keyed_each {H : Hp} {s : Shared} {K : PySem.W.Frag} : ∀ {acc : List Value} {ks : List Key}, acc.length = ks.length → (∀ (j : Nat) v, acc[j]? = some v → ∃ k, ks[j]? = some k ∧ keyIs k v = true) → EachIs (fun v d => ∃ u, RelV u v ∧ Rep K H true u d []) acc (ks.map kD) ∧ EachIs (fun v d => ∃ as, Reads s.heap v (id d) as) acc (ks.map kD)
  | [], [], _, _ => ⟨.nil, .nil⟩
  | [], _ :: _, h, _ => nomatch h
  | _ :: _, [], h, _ => nomatch h
  | v :: acc, k :: ks, h, e => by
    obtain ⟨a1, a2⟩ := keyed_each (H := H) (s := s) (K := K) (acc := acc) (ks := ks) (by simpa using h) fun j v hj => by simpa using e (j + 1) v (by simpa using hj)
    obtain ⟨k', hk, ek⟩ := e 0 v rfl
    have : k = k' := by simpa using hk
    subst this
    rcases keyIs_shape ek with ⟨i, t, rfl, rfl⟩ | ⟨x, t, rfl, rfl⟩
    · exact ⟨.cons ⟨.int i, ⟨t, rfl⟩, .int i⟩ a1, .cons ⟨[], .int i t⟩ a2⟩
    · exact ⟨.cons ⟨.str x, ⟨t, rfl⟩, .str x⟩ a1, .cons ⟨[], .str x t⟩ a2⟩
theorem b_sorted (hc : X.calm = true) (hu : X.A.units + 70 < cLine) : CallR X (.builtin "sorted") (rB X.K .sorted) := by
  intro pins s σ H xs us Q I r ⟨ps, gs, b, d, ra, e, q⟩
  match ps, e with
  | [(p, .list zs)], e => exact b_sortedL hu pins s σ H xs us Q I r ⟨p, zs, gs, b, d, ra, e, q⟩
  | [(p, .tuple zs)], e =>
    obtain ⟨v, g, rfl, rfl, r1⟩ := ra.n1
    obtain ⟨a, ws, rfl, ha, rs⟩ := r1.t
    simp only [biD] at e
    split at e
    · rename_i hz
      obtain ⟨ys, hs, e⟩ := Option.map_eq_some_iff.mp e
      simp only [Prod.mk.injEq] at e
      obtain ⟨rfl, rfl⟩ := e
      obtain ⟨its, rv, hl, _⟩ := I.tuple (SqT.of ha)
      have rs' := (rs.fz hz).2 true
      obtain ⟨e1, e2⟩ := each_of I rs' rv (sort_ok hs).1
      rw [Vals.ref1 r]
      obtain ⟨o, ho, hcl, n, hd⟩ := hl
      have hsz : its.toArray.size ≤ sizeLine := by rw [List.size_toArray, e1.length, sizeLine_eq]; exact (sort_ok hs).2.2.2.2.1
      exact sorted_end (Good := fun vs => vs = its) hu I (fun h => wpAny_collect_seq (prog := X.prog) (w := X.w) (A := X.A.in1) (s := s) a (T := "tuple") (items := its.toArray) (n := n) (.inr rfl) ho hcl hd (fun h' hk => h h' s.toks its hk rfl) hsz) hs (fun vs z => by subst z; exact ⟨e1, e2⟩) q
    · cases e
  | [(p, .dict kvs)], e =>
    obtain ⟨v, g, rfl, rfl, r1⟩ := ra.n1
    simp only [biD] at e
    split at e
    · rename_i hz
      obtain ⟨hz1, hz2⟩ := hz
      obtain ⟨ys, hs, e⟩ := Option.map_eq_some_iff.mp e
      simp only [Prod.mk.injEq] at e
      obtain ⟨rfl, rfl⟩ := e
      rcases r1.dn hz1 with ⟨a, ks, fs, rfl, ht, ha, he, hr, rfl⟩ | ⟨a, ks, es, fs, rfl, rfl, ha, he, hr, rfl⟩
      · obtain ⟨z, lo, vs, rel, dd⟩ := dk_rd I.hok ha.rd
        obtain ⟨ep, hat⟩ := dd.dictAt
        obtain ⟨u, rfl, ru⟩ := vals1 r
        obtain rfl : u = .ref a := ru
        have hlk : ks.length = vs.length := by
          have := congrArg List.length rel.keys
          simpa using this
        rw [← he] at hs
        have hs' : sortD ((ks.map (·.1)).map kD) = some ys := by rw [List.map_map]; exact hs
        have h16 : vs.length ≤ sizeLine := by rw [← hlk]; exact z
        refine sorted_end (Good := fun acc => acc.length = vs.length ∧ ∀ j v, acc[j]? = some v → ∃ k x, vs[j]? = some (k, x) ∧ keyIs k v = true) hu I (fun h => PySem.W.kdu_collect (A := X.A.in1) (PySem.W.kdl_dict (knd := mixKind X.prog X.w) (kvs := vs) (ep := ep) lo) (I.ok.hd hc) hat h16 fun h' tk acc hk hacc => h h' tk acc.toList hk ⟨by rw [Array.length_toList, hacc.1], fun j v ej => hacc.2 j v (by rw [← Array.getElem?_toList]; exact ej)⟩) hs' (fun acc ⟨g1, g2⟩ => keyed_each (by rw [List.length_map, g1, hlk]) fun j v ej => ?_) q
        obtain ⟨k, x, e1, e2⟩ := g2 j v ej
        refine ⟨k, ?_, e2⟩
        rw [rel.keys, List.getElem?_map, e1]
        rfl
      · simp [tk] at hz2
    · cases e
end
end Den

set_option Elab.async false
set_option linter.all false
set_option maxRecDepth 100000
/-! DenGa: enumerate over a list or a tuple. -/
namespace Den
open PySem PySem.Spec PyProof.Rows L2 PySem.W

set_option maxHeartbeats 1000000 in
theorem en_meets {v : Value} {ob : Obj} {B0 : Heap → Prop} (B : Begins v ob B0) : Meets (Builtin.«enumerate.__new__» ⟨[.type "enumerate", v], []⟩) (fun _ R s => B0 s.heap ∧
      R (.ok (.ret (.ref (s.heap.push ob).objs.size))) { s with heap := (s.heap.push ob).push { cls := .type "enumerate", data := .fields #[.none, .bool false, .ref s.heap.objs.size, rawInt 0, .none, .none] } }) :=
  .of_wp fun prog w A R s hh => by
    obtain ⟨hp, gs, dr, tk, os⟩ := s
    obtain ⟨h1, hR⟩ := hh
    have sub0 := sub_enumerate
    have go : ∀ {A1 : Around} {E1 : Value → Shared → Prop} {Q1 : Value → Shared → Prop}, Q1 (.ref hp.objs.size) ⟨hp.push ob, gs, dr, tk, os⟩ → wpAny (model prog w) A1 (pyIter v) Q1 E1 ⟨hp, gs, dr, tk, os⟩ := fun z => B.iter prog w _ _ ⟨hp, gs, dr, tk, os⟩ _ h1 z
    wp_walk using go
    refine wpAny_stack_any fun sk => wpAny_pure ?_
    split <;> first | (rename_i cz _ _ _ _ _; cases cz == Value.type "enumerate" <;> (wp_walk using go; exact ⟨_, rfl, hR⟩)) | (wp_walk using go; exact ⟨_, rfl, hR⟩)
theorem en_call {prog : Program} {w : World} {A : Around} {E : Value → Shared → Prop} {s : Shared} {v : Value} {ob : Obj} {B0 : Heap → Prop} {Q : Value → Shared → Prop} (B : Begins v ob B0) (h1 : B0 s.heap)
    (h : ∀ h2, IsEnum h2 (s.heap.objs.size + 1) s.heap.objs.size 0 .none → h2.get? s.heap.objs.size = some ob → (∀ b o, s.heap.get? b = some o → h2.get? b = some o) → Q (.ref (s.heap.objs.size + 1)) { s with heap := h2 }) :
    wpAny (model prog w) A (call (.type "enumerate") [v]) Q E s := by
  refine callType_new F.called_enumerate (by decide) (F.typeCall_enumerate_1 _) (F.newCall_enumerate_1 _) (fun obj => F.args_object_init_2 obj _) F.entry_enumerate_new (en_meets B) ⟨h1, ?_⟩
  have sz : (s.heap.push ob).objs.size = s.heap.objs.size + 1 := Heap.size_push ..
  show _ ∧ _
  rw [sz]
  have e1 := Heap.get?_push_size (s.heap.push ob) (o := { cls := .type "enumerate", data := .fields #[.none, .bool false, .ref s.heap.objs.size, rawInt 0, .none, .none] }) rfl
  rw [sz] at e1
  exact ⟨⟨_, e1, rfl⟩, h _ e1 (Heap.get?_push_of_some _ (Heap.get?_push_size _ B.free)) fun b o x => Heap.get?_push_of_some _ (Heap.get?_push_of_some _ x)⟩
/-- the tuple at a, its items in new pairs with their places -/
def IteT (K : PySem.W.Frag) (a : Addr) : It :=
  ⟨fun i H => ∃ (xs : List V) (x : V), SqT K H a xs ∧ xs[i]? = some x, fun i H v H' => ∃ T x, v = .ref T ∧ H T = none ∧ H' = upd H T (.tup [.int (i : Nat), x]) ∧ ∀ xs, SqT K H a xs → xs[i]? = some x, fun i H => ∃ xs : List V, SqT K H a xs ∧ xs.length = i⟩
theorem en_turn {P : Program} {w : World} {K : PySem.W.Frag} {elts : List Expr} {kk : Nat} {tpos : Pos} {a e it : Addr} (hei : e ≠ it) (hea : e ≠ a) (hai : a ≠ it) :
    Turn P w K (.Tuple elts kk tpos) (IteT K a) [e, it] e (fun i h => (∃ old, IsEnum h e it ((i : Nat) : Int) old) ∧ h.IsTupleIter it a i) where
  mem := List.mem_cons_self
  obj := fun i h st b hb => by
    obtain ⟨⟨old, he⟩, ⟨o, ho, _, hd⟩⟩ := st
    rcases List.mem_cons.mp hb with z | z
    · subst z; exact ⟨_, he, fun v q => nomatch q⟩
    · rw [List.mem_singleton.mp z]; exact ⟨o, ho, fun v q => by rw [hd] at q; cases q⟩
  keep := fun i h h' st k => ⟨let ⟨old, he⟩ := st.1; ⟨old, k e List.mem_cons_self _ he⟩, st.2.at fun o q => k it (List.mem_cons_of_mem _ List.mem_cons_self) o q⟩
  item := by
    intro X hP hw hK hc i pins s σ H E I hf st hg
    subst hP hw hK
    obtain ⟨⟨old, he⟩, hit⟩ := st
    obtain ⟨xs, x, hq, hx⟩ := hg
    obtain ⟨its, rv, tp, _⟩ := I.tuple hq
    obtain ⟨u, hu, ru⟩ := rv.get hx
    have dr := Draws.tuple (prog := X.prog) (w := X.w) (A := X.A.in1) (I.ok.hd hc) it a hai its.toArray
    have hlt : i < its.toArray.size := by rw [List.size_toArray]; exact (List.getElem?_eq_some_iff.mp hu).1
    have hel : e < s.heap.objs.size := Heap.lt_size he
    have hil : it < s.heap.objs.size := by obtain ⟨_, q, _⟩ := hit; exact Heap.lt_size q
    refine wpAny_pyNext_enum_itemD dr he ⟨hit, tp⟩ hlt hei (by simp [hei, hea]) fun y h' tk hy ho hit' hT hsz hk => ?_
    have yu : y = u := by
      have : its.toArray[i]? = some u := by simpa using hu
      rw [this] at hy; exact (Option.some.inj hy).symm
    subst yu
    refine ⟨_, rfl, wpAny_letOwnedTupleGo_enum (s := { s with heap := h', toks := tk + 1 }) ho fun h2 he2 sb => ?_⟩
    have t2 : h2.get? s.heap.objs.size = some { cls := .type "tuple", data := .seq #[.int i tk, y] } := (sb.2 _ (Nat.ne_of_gt hel)).trans hT
    have mk : ObjOk X.prog X.w (upd H s.heap.objs.size (.tup [.int (i : Nat), x])) h2 s.heap.objs.size (.tup [.int (i : Nat), x]) :=
      ⟨by show 2 ≤ sizeLine; decide, [.int i tk, y], .cons ⟨_, rfl⟩ (.cons ru .nil), ⟨_, t2, rfl, _, rfl⟩⟩
    have I2 : Inv X pins σ (upd H s.heap.objs.size (.tup [.int (i : Nat), x])) { s with heap := h2, toks := tk + 1 } :=
      I.turnedNew (ch := [e, it]) (fun b o hb q => (sb.2 b fun z => hb (by simp [z])).trans (hk b o (fun z => hb (by simp [z])) (fun z => hb (by simp [z])) q)) hf (Nat.le_refl _) mk
    refine ⟨.ref s.heap.objs.size, _, I2, rfl, ⟨_, x, rfl, I.hok.fresh (Nat.le_refl _), rfl, fun ys hy2 => by rw [I.tuple_inj hy2 hq]; exact hx⟩, ⟨⟨y, ?_⟩, hit'.1.at fun o q => (sb.2 it (Ne.symm hei)).trans q⟩, fun b hb => ?_⟩
    · rw [show ((i + 1 : Nat) : Int) = (i : Int) + 1 by omega]; exact he2
    · have : b < s.heap.objs.size := by
        rcases List.mem_cons.mp hb with z | z
        · rw [z]; exact hel
        · rw [List.mem_singleton.mp z]; exact hil
      rw [upd_ne (Nat.ne_of_lt this)]
      exact (hf b hb).1
  done := by
    intro X hP hw hK hc i pins s σ H E I hf st hg
    subst hP hw hK
    obtain ⟨⟨old, he⟩, hit⟩ := st
    obtain ⟨xs, hq, rfl⟩ := hg
    obtain ⟨its, rv, tp, _⟩ := I.tuple hq
    have hl := rv.length
    have dr := Draws.tuple (prog := X.prog) (w := X.w) (A := X.A.in1) (I.ok.hd hc) it a hai its.toArray
    obtain ⟨f0, f1, f2, f3, f4, f5⟩ := hf it (List.mem_cons_of_mem _ List.mem_cons_self)
    exact wpAny_pyNext_enum_endD dr he ⟨by rw [List.size_toArray, ← hl]; exact hit, tp⟩ fun h' eb => ⟨rfl, I.turned (t' := s.toks) (fun b o hb q => eb b o hb q) f0 f1 f3 f4 f5⟩
  self := fun A i s Q E st h => let ⟨⟨_, he⟩, _⟩ := st; wpAny_pyIter_enum he h
def iEnA (K : PySem.W.Frag) (ta : TA) : TI := fun σ H R => ta σ H fun vs H1 => ∃ a xs, vs = [.ref a] ∧ ((SqL K H1 a xs ∧ R (Ite K a) H1) ∨ (SqT K H1 a xs ∧ R (IteT K a) H1))
theorem pi_enA {X : Cx} {e : Expr} {ta : TA} {p pos tpos : Pos} {elts : List Expr} {kk : Nat} (hg : Gl X "enumerate") (hm : X.mg "enumerate" = none) (ha : PA X [e] ta) (hs : starEach [e] X.env = [(false, eval e X.env)]) :
    PI X (.Tuple elts kk tpos) (.Call (.Name "enumerate" p) [e] [] pos) (iEnA X.K ta) := by
  refine ⟨fun pins s σ H R I h => Call_ (ld_blt I hg hm boot_enumerate (PyProof.Rows.callWith_type1 (thn (ha.run pos pins s σ H _ I h) fun us s1 ⟨vs, H1, I1, r1, q1⟩ => ?_) hs rfl))⟩
  obtain ⟨a, xs, rfl, q1⟩ := q1
  rw [Vals.ref1 r1]
  have fin : ∀ {h2 : Heap} {J : It} {tn : Nat → Heap → Prop}, (∀ b o, s1.heap.get? b = some o → h2.get? b = some o) → Turn X.prog X.w X.K (.Tuple elts kk tpos) J [s1.heap.objs.size + 1, s1.heap.objs.size] (s1.heap.objs.size + 1) tn → tn 0 h2 → R J H1 →
      PIE X pins σ (.Tuple elts kk tpos) R (.ref (s1.heap.objs.size + 1)) { s1 with heap := h2 } := fun {h2 J tn} hk T t0 q => by
    refine ⟨s1.heap.objs.size + 1, _, tn, J, H1, rfl, I1.kept (t' := s1.toks) hk, T, t0, fun b hb => ?_, q⟩
    have hle : s1.heap.objs.size ≤ b := by
      rcases List.mem_cons.mp hb with z | z
      · rw [z]; exact Nat.le_succ _
      · rw [List.mem_singleton.mp z]; exact Nat.le_refl _
    exact I1.fpOk hle (I1.hok.fresh hle)
  rcases q1 with ⟨hq, q⟩ | ⟨hq, q⟩
  · obtain ⟨its, _, w1, _⟩ := I1.list hq
    refine en_call (begins_list a its.toArray) w1.isList fun h2 he hob hk => wpAny_pyIter_enum he (fin hk (turn_enum a _ _) ⟨⟨.none, he⟩, ⟨_, hob, rfl, rfl⟩, Nat.succ_ne_self _⟩ q)
  · obtain ⟨its, _, w1, _⟩ := I1.tuple hq
    have w1' : s1.heap.IsTuple a its.toArray := w1
    have lta : a < s1.heap.objs.size := by obtain ⟨_, z, _⟩ := w1'; exact Heap.lt_size z
    refine en_call (begins_tuple a its.toArray) w1' fun h2 he hob hk => wpAny_pyIter_enum he (fin hk (en_turn (Nat.succ_ne_self _) (Nat.ne_of_gt (Nat.lt_succ_of_lt lta)) (Nat.ne_of_lt lta)) ⟨⟨.none, he⟩, ⟨_, hob, rfl, rfl⟩⟩ q)
end Den

set_option Elab.async false
set_option linter.all false
set_option maxRecDepth 100000
/-! DenSet: set of a list of ints; sorted and len of it. -/
namespace Den
open PySem PySem.Spec PyProof.Rows L2
/-- what the set has got from the first i items -/
structure GotI (ns : List Int) (i : Nat) (S : Int → Bool) (n : Nat) : Prop where
  mem : ∀ k, S k = true ↔ k ∈ ns.take i
  len : n ≤ i
theorem ints_get : ∀ {vs : List Value} {ns : List Int}, IntsAre vs ns → ∀ {i : Nat} {v : Value}, vs[i]? = some v → ∃ x t, ns[i]? = some x ∧ v = .int x t
  | _, _, .nil, i, v, h => by simp at h
  | _, _, .cons n t r, 0, v, h => by
    simp at h
    exact ⟨n, t, rfl, h.symm⟩
  | _, _, .cons n t r, i + 1, v, h => by
    obtain ⟨x, t', h1, h2⟩ := ints_get r (i := i) (by simpa using h)
    exact ⟨x, t', by simpa using h1, h2⟩
section
variable {P : Program} {w : World} {A : Around} {E : Value → Shared → Prop} {s : Shared}
theorem set_loop {I : Addr} {fp wr : List Addr} {G : Array GenState → Array GenState → Prop} {N : Nat} {Pv : Nat → Value → Prop} {St : Nat → Shared → Prop} {R : Result → Shared → Prop}
    (W : WalksS P w A.in1 I fp wr G N Pv St) (a : Addr) (hSf : a ∉ fp) (ns : List Int) (hn : N = ns.length) (hfew : ns.length + 1 < scanBound) (hval : ∀ i v, Pv i v → ∃ x t, ns[i]? = some x ∧ v = .int x t)
    (h0 : Heap) (hS0 : h0.get? a = none) (hw0 : ∀ b ∈ wr, h0.get? b = none) :
    ∀ (k i : Nat) (s : Shared), N - i = k → i ≤ N → St i s → (∀ b o, h0.get? b = some o → s.heap.get? b = some o) → (∃ S n, SetR w s.heap a S n ∧ GotI ns i S n) →
      (∀ s' S n, Moved (a :: wr) G s s' → SetR w s'.heap a S n → GotI ns N S n → (∀ b o, h0.get? b = some o → s'.heap.get? b = some o) → R (.ok (.ret .none)) s') →
      codeAny (model P w) A (.builtin "set.update.loop" ⟨[.ref a, .ref I], []⟩) R s := by
  have hSw : a ∉ wr := fun h => hSf (W.sub _ h)
  have hsub : ∀ b ∈ wr, b ∈ a :: wr := fun b hb => List.mem_cons_of_mem _ hb
  have keepM : ∀ {s s' : Shared}, Moved wr G s s' → (∀ b o, h0.get? b = some o → s.heap.get? b = some o) → ∀ b o, h0.get? b = some o → s'.heap.get? b = some o := fun hm hkp b o e =>
    hm.heap b o (fun hb => by rw [hw0 b hb] at e; cases e) (hkp b o e)
  intro k
  induction k with
  | zero =>
    intro i s hk' hi hst hkp ⟨S, n, hS, g⟩ hR
    obtain rfl : i = N := by omega
    refine codeAny_builtin F.entry_set_update_loop ?_
    rw [Around.under_plainId F.plain_set_update_loop _]
    show wpAny _ A.in1 (pyNext (.ref I) >>= _) _ _ s
    refine wpAny_bind (W.done s _ _ hst fun s' hm => ?_)
    show wpAny _ A.in1 (ret Value.none) _ _ s'
    exact wpAny_pure (hR s' S n (hm.mono hsub) (hS.at fun o e => hm.heap a o hSw e) g (keepM hm hkp))
  | succ k ih =>
    intro i s hk' hi hst hkp ⟨S, n, hS, g⟩ hR
    have hlt : i < N := by omega
    refine codeAny_builtin F.entry_set_update_loop ?_
    rw [Around.under_plainId F.plain_set_update_loop _]
    show wpAny _ A.in1 (pyNext (.ref I) >>= _) _ _ s
    refine wpAny_bind (W.item i s _ _ hlt hst fun v s' hP hst' hm => ?_)
    obtain ⟨x, tk, hp, rfl⟩ := hval i v hP
    have hkp' := keepM hm hkp
    have hS' : SetR w s'.heap a S n := hS.at fun o e => hm.heap a o hSw e
    show wpAny _ A.in1 (holding [Value.int x tk] (setAdd a (.int x tk)) >>= _) _ _ s'
    refine wpAny_bind (wpAny_holding ?_)
    unfold setAdd
    refine wpAny_holding ?_
    refine wpAny_bind ((intKind P w).pyHash (intKind_is P w x tk) ?_)
    refine setR_add_hashed (s := { s' with toks := s'.toks + 1 }) hS' (by have := g.len; omega) fun h' hsb hS2 => ?_
    have g' : GotI ns (i + 1) (fun j => S j || decide (j = x)) (if S x = true then n else n + 1) := by
      refine ⟨fun k => ?_, by have := g.len; split <;> omega⟩
      rw [take_next hp, List.mem_append, List.mem_singleton, Bool.or_eq_true, decide_eq_true_eq, g.mem k]
    have hkp2 : ∀ b o, h0.get? b = some o → h'.get? b = some o := fun b o e => (hsb.2 b (fun z => by rw [z, hS0] at e; cases e)).trans (hkp' b o e)
    refine wpAny_pure ⟨plainId_quiet F.plain_set_update_loop _, ih (i + 1) _ (by omega) hlt (W.frame _ s' _ _ hst' (Nat.le_add_right _ _) fun b hb o e => ?_) hkp2 ⟨_, _, hS2, g'⟩ fun s'' S2 n2 hm'' hS'' g'' hkp'' => ?_⟩
    · rw [hsb.2 b (fun h : b = a => hSf (by rw [← h]; exact hb))]; exact e
    · refine hR s'' S2 n2 (Moved.trans W.gtrans ((hm.mono hsub).then_heap (Nat.le_add_right _ _) fun b o hb e => ?_) hm'') hS'' g'' hkp''
      rw [hsb.2 b (fun h : b = a => hb (by rw [h]; exact List.mem_cons_self))]; exact e
set_option maxRecDepth 100000 in
set_option maxHeartbeats 3200000 in
/-- set(xs), xs a list of ints -/
theorem call_set_ints {l : Addr} {items : Array Value} (ns : List Int) {Q : Value → Shared → Prop} (hh : A.handled = none) (hl : s.heap.IsList l items) (hit : IntsAre items.toList ns) (hfew : ns.length + 1 < scanBound)
    (h : ∀ (h' : Heap) (tk : Nat) S n, SetR w h' s.heap.objs.size S n → GotI ns ns.length S n → (∀ b o, s.heap.get? b = some o → h'.get? b = some o) → Q (.ref s.heap.objs.size) { s with heap := h', toks := tk }) :
    wpAny (model P w) A (call (.type "set") [.ref l]) Q E s := by
  have hisz : items.size = ns.length := by
    have q := hit.length
    rw [Array.length_toList] at q
    exact q
  obtain ⟨c, tl, hmro⟩ := F.called_set.mro
  have hmade := F.called_set.made
  have hsub := F.called_set.sub
  refine wpAny_call (codeAny_of_tree ?_)
  show wpAny _ _ (callAny (.type "set") _) _ _ _
  refine wpAny_pure ⟨Code.quiet_builtin _ (by decide +kernel), codeAny_builtin F.entry_type_call ?_⟩
  rw [Around.under_plain (weight_type_call_type "set" [.ref l] []) rfl]
  have h1 := F.called_set.notType
  have h2 := F.called_set.canCreate
  have hct := F.typeCall_set_1 (.ref l)
  repeat (any_goals (first | assumption | wp_step))
  refine codeAny_mono (code_set_led1 (.ref l) (E := E) (Q₁ := fun obj s₁ => obj = .ref s.heap.objs.size ∧ s₁ = { s with heap := s.heap.push { cls := .type "set", dict := none, data := .set #[] 0 (.fresh 0 0 (!w.params.followText "set-order")) } }) ⟨rfl, rfl⟩) fun r s₁ hr => ?_
  cases r with
  | error e => exact hr
  | ok fl =>
    cases fl with
    | ret obj =>
      obtain ⟨rfl, rfl⟩ := hr
      have hS : (s.heap.push { cls := .type "set", dict := none, data := .set #[] 0 (.fresh 0 0 (!w.params.followText "set-order")) }).get? s.heap.objs.size = some { cls := .type "set", dict := none, data := .set #[] 0 (.fresh 0 0 (!w.params.followText "set-order")) } := Heap.get?_push_size _ rfl
      have hT : Shared.TypeIs { s with heap := s.heap.push { cls := .type "set", dict := none, data := .set #[] 0 (.fresh 0 0 (!w.params.followText "set-order")) } } (.ref s.heap.objs.size) "set" := ⟨_, hS, rfl⟩
      have hli := F.called_set.init.lookup
      have hbi := F.called_set.init.bind (.ref s.heap.objs.size)
      repeat (any_goals (first | assumption | wp_step))
      refine codeAny_mono (codeAny_call_builtin (R := wants (fun r s₂ => r = .none ∧ ∃ h' tk S n, s₂ = { s with heap := h', toks := tk } ∧ SetR w h' s.heap.objs.size S n ∧ GotI ns ns.length S n ∧
          (∀ b o, s.heap.get? b = some o → h'.get? b = some o)) E) F.called_set.init.plain F.entry_set_init (check_set_init_1 hT ?_)) fun r₂ s₂ hr₂ => ?_
      · obtain ⟨ol, hol, hcl, nl, hdl⟩ := hl
        obtain ⟨ocls, odict, odata, oslots⟩ := ol
        simp only at hcl hdl
        subst hcl; subst hdl
        have hol' : (s.heap.push { cls := .type "set", dict := none, data := .set #[] 0 (.fresh 0 0 (!w.params.followText "set-order")) }).get? l = some { cls := .type "list", dict := odict, data := .seq items nl, slots := oslots } := Heap.get?_push_of_some _ hol
        have hsls := F.sub_list_set
        have hslf := F.sub_list_frozenset
        have hne : (Value.type "list" == Value.type "dict") = false := by decide
        have hl1 : (s.heap.push { cls := .type "set", dict := none, data := .set #[] 0 (.fresh 0 0 (!w.params.followText "set-order")) }).IsList l items := ⟨_, hol', rfl, nl, rfl⟩
        unfold Builtin.«set.__init__» noKeywords Builtin.Frozenset.updateFrom
        generalize hPI : pyIter = PI
        wp_walk
        subst hPI
        refine wpAny_pyIter_list hl1 ?_
        refine wpAny_bind (wpAny_runValue ?_)
        have hlS : l < s.heap.objs.size := Heap.lt_size hol
        have hh3 : A.in1.in1.in1.handled = none := by simp [hh]
        have hneI : l ≠ (s.heap.push { cls := .type "set", dict := none, data := .set #[] 0 (.fresh 0 0 (!w.params.followText "set-order")) }).objs.size := by
          rw [Heap.size_push]; exact Nat.ne_of_lt (Nat.lt_succ_of_lt hlS)
        have hSf : s.heap.objs.size ∉ [(s.heap.push { cls := .type "set", dict := none, data := .set #[] 0 (.fresh 0 0 (!w.params.followText "set-order")) }).objs.size, l] := by
          rw [Heap.size_push]; simp only [List.mem_cons, List.mem_singleton, List.not_mem_nil, or_false, not_or]
          exact ⟨Nat.ne_of_lt (Nat.lt_succ_self _), Nat.ne_of_gt hlS⟩
        have hval : ∀ (i : Nat) (v : Value), items[i]? = some v → ∃ x t, ns[i]? = some x ∧ v = .int x t := fun i v hv => by
          exact ints_get hit (by rw [Array.getElem?_toList]; exact hv)
        have none_of : ∀ b, s.heap.objs.size ≤ b → s.heap.get? b = none := fun b hb => by
          cases q : s.heap.get? b with
          | none => rfl
          | some o => exact absurd (Nat.lt_of_lt_of_le (Heap.lt_size q) hb) (Nat.lt_irrefl _)
        refine set_loop ((Walks.list hh3 _ l hneI items).toS) s.heap.objs.size
          hSf ns hisz hfew hval s.heap (none_of _ (Nat.le_refl _)) (fun b hb => none_of b (by
            rw [List.mem_singleton.mp hb, Heap.size_push]
            exact Nat.le_succ _)) (items.size - 0) 0 _ (by omega) (Nat.zero_le _)
          ⟨⟨_, Heap.get?_push_size _ rfl, rfl, rfl⟩, (hl1.push _)⟩ (fun b o e => Heap.get?_push_of_some _ (Heap.get?_push_of_some _ e)) ?hS0 ?hR
        case hS0 =>
          refine ⟨fun _ => false, 0, (setR_fresh w).at fun o e => Heap.get?_push_of_some _ e, ⟨fun k => by simp, Nat.le_refl _⟩⟩
        case hR =>
          intro s' S n hm hS' g' hkp
          obtain ⟨h', g2, d', tk', os'⟩ := s'
          have eg : g2 = s.gens := hm.gens
          have ed : d' = s.drawn := hm.drawn
          have eo : os' = s.os := hm.os
          subst eg; subst ed; subst eo
          show wpAny _ _ _ _ _ _
          refine wpAny_pure ?_
          show wpAny _ _ (ret Value.none) _ _ _
          rw [hisz] at g'
          exact wpAny_pure ⟨rfl, h', tk', S, n, rfl, hS', g', hkp⟩
      · cases r₂ with
        | error e => exact hr₂
        | ok fl₂ =>
          cases fl₂ with
          | ret r =>
            obtain ⟨rfl, h', tk, S, n, rfl, hS', g', hk'⟩ := hr₂
            repeat (any_goals (first | assumption | wp_step))
            exact h _ _ _ _ hS' g' hk'
          | _ => exact hr₂.elim
    | _ => exact hr.elim
end
section
variable {X : Cx}
def rSetOfI (K : PySem.W.Frag) (w : World) : List V → Hp → VK → Prop := fun xs H Q => ∃ (l : Addr) (ns : List Int), xs = [V.ref l] ∧ SqL K H l (ns.map V.int) ∧ ns.length < 64 ∧
  ∀ S n p, GotI ns ns.length S n → H p = none → Q (.ref p) (upd H p (SetO w p S n))
theorem cr_setOfI (hc : X.calm = true) : CallR X (.type "set") (rSetOfI X.K X.w) := by
  intro pins s σ H xs us Q I r h
  obtain ⟨l, ns, rfl, hs, h64, q⟩ := h
  rw [Vals.ref1 r]
  obtain ⟨its, rv, hl, _⟩ := I.list hs
  have hb : ns.length + 1 < scanBound := by
    have : (64 : Nat) < scanBound := by decide
    omega
  refine call_set_ints ns (I.ok.hd hc) hl.isList (by rw [List.toList_toArray]; exact Vals.ints rv) hb fun h' tk S n R g k => ?_
  exact ⟨.ref _, upd H s.heap.objs.size (SetO X.w s.heap.objs.size S n), I.laid (t' := tk) k (Nat.le_refl _) (setO_new R), rfl, q S n _ g (I.hok.fresh (Nat.le_refl _))⟩

/-- set(xs), xs a tuple of ints -/
def rSetOfT (K : PySem.W.Frag) (w : World) : List V → Hp → VK → Prop := fun xs H Q => ∃ (l : Addr) (ns : List Int), xs = [V.ref l] ∧ SqT K H l (ns.map V.int) ∧ ns.length < 64 ∧
  ∀ (S : Int → Bool) n p, (∀ k, S k = true ↔ k ∈ ns) → H p = none → Q (.ref p) (upd H p (SetO w p S n))
theorem cr_setOfT (hc : X.calm = true) : CallR X (.type "set") (rSetOfT X.K X.w) := by
  intro pins s σ H xs us Q I r h
  obtain ⟨l, ns, rfl, hs, h64, q⟩ := h
  rw [Vals.ref1 r]
  obtain ⟨its, rv, hl, _⟩ := I.tuple hs
  have hb : ns.length + 1 < scanBound := by
    have : (64 : Nat) < scanBound := by decide
    omega
  refine call_set_tupI ns (I.ok.hd hc) hl (by rw [List.toList_toArray]; exact Vals.ints rv) hb fun h' tk n R g k => ?_
  exact ⟨.ref _, upd H s.heap.objs.size (SetO X.w s.heap.objs.size (fun j => decide (j ∈ ns)) n), I.laid (t' := tk) k (Nat.le_refl _) (setO_new R), rfl, q _ n _ (fun k => by simp) (I.hok.fresh (Nat.le_refl _))⟩
theorem CallR.or2 {f : Value} {r r' : List V → Hp → VK → Prop} (h : CallR X f r) (h' : CallR X f r') : CallR X f (fun xs H Q => r xs H Q ∨ r' xs H Q) := by
  intro pins s σ H xs us Q I rs q
  rcases q with q | q
  · exact h pins s σ H xs us Q I rs q
  · exact h' pins s σ H xs us Q I rs q
/-- len of a set -/
def rLenSet (w : World) : List V → Hp → VK → Prop := fun xs H Q => ∃ (p : Addr) (S : Int → Bool) (n : Nat), xs = [V.ref p] ∧ H p = some (SetO w p S n) ∧ ∀ m : List Int, m.Nodup → (∀ k, k ∈ m ↔ S k = true) → m.length = n → Q (.int (n : Nat)) H
theorem cr_lenSet : CallR X (.builtin "len") (rLenSet X.w) := by
  intro pins s σ H xs us Q I r h
  obtain ⟨p, S, n, rfl, hp, q⟩ := h
  rw [Vals.ref1 r]
  obtain ⟨o, es, ep, t, ho, hex, hd, _, hnd, hmem, hsz, hf, hn, _⟩ := setO_get I hp
  have hsb : es.size < 2 ^ 62 := Nat.lt_trans hsz (by decide)
  refine call_len_set ho hex hd hf (by omega) ⟨.int (n : Nat), H, (I.tok _).tok _, ⟨_, by rw [hn]⟩, q (es.toList.map keyOf) hnd (fun k => (hmem k).symm) (by rw [List.length_map, ← hn]; rfl)⟩
end
end Den

set_option Elab.async false
set_option linter.all false
set_option maxRecDepth 100000
/-! DenMs: set of a tuple of tuples of ints. -/
namespace Den
open PySem PySem.Spec PyProof.Rows L2
section
variable {P : Program} {w : World} {A : Around} {E : Value → Shared → Prop} {s : Shared}
set_option maxRecDepth 100000 in
set_option maxHeartbeats 3200000 in
/-- set(xs), xs a tuple of tuples of ints -/
theorem call_set_tupsT {l : Addr} {items : Array Value} (ks : List (Addr × List Int)) {Q : Value → Shared → Prop} (hh : A.handled = none) (hl : s.heap.IsTuple l items) (hit : items.toList = ks.map fun p => Value.ref p.1) (hk : ∀ p ∈ ks, IsT P w s.heap p.2 p.1) (hfew : ks.length < 64) (hu : A.units + 3 < cLine)
    (h : ∀ (h' : Heap) (tk : Nat) L es ep t, SetTR P w h' s.heap.objs.size L es ep t → L2.Got ks ks.length L → (∀ b o, s.heap.get? b = some o → h'.get? b = some o) → Q (.ref s.heap.objs.size) { s with heap := h', toks := tk }) :
    wpAny (model P w) A (call (.type "set") [.ref l]) Q E s := by
  have hisz : items.size = ks.length := by
    have q := congrArg List.length hit
    rw [Array.length_toList, List.length_map] at q
    exact q
  obtain ⟨c, tl, hmro⟩ := F.called_set.mro
  have hmade := F.called_set.made
  have hsub := F.called_set.sub
  refine wpAny_call (codeAny_of_tree ?_)
  show wpAny _ _ (callAny (.type "set") _) _ _ _
  refine wpAny_pure ⟨Code.quiet_builtin _ (by decide +kernel), codeAny_builtin F.entry_type_call ?_⟩
  rw [Around.under_plain (weight_type_call_type "set" [.ref l] []) rfl]
  have h1 := F.called_set.notType
  have h2 := F.called_set.canCreate
  have hct := F.typeCall_set_1 (.ref l)
  repeat (any_goals (first | assumption | wp_step))
  refine codeAny_mono (code_set_led1 (.ref l) (E := E) (Q₁ := fun obj s₁ => obj = .ref s.heap.objs.size ∧ s₁ = { s with heap := s.heap.push { cls := .type "set", dict := none, data := .set #[] 0 (.fresh 0 0 (!w.params.followText "set-order")) } }) ⟨rfl, rfl⟩) fun r s₁ hr => ?_
  cases r with
  | error e => exact hr
  | ok fl =>
    cases fl with
    | ret obj =>
      obtain ⟨rfl, rfl⟩ := hr
      have hS : (s.heap.push { cls := .type "set", dict := none, data := .set #[] 0 (.fresh 0 0 (!w.params.followText "set-order")) }).get? s.heap.objs.size = some { cls := .type "set", dict := none, data := .set #[] 0 (.fresh 0 0 (!w.params.followText "set-order")) } := Heap.get?_push_size _ rfl
      have hT : Shared.TypeIs { s with heap := s.heap.push { cls := .type "set", dict := none, data := .set #[] 0 (.fresh 0 0 (!w.params.followText "set-order")) } } (.ref s.heap.objs.size) "set" := ⟨_, hS, rfl⟩
      have hli := F.called_set.init.lookup
      have hbi := F.called_set.init.bind (.ref s.heap.objs.size)
      repeat (any_goals (first | assumption | wp_step))
      refine codeAny_mono (codeAny_call_builtin (R := wants (fun r s₂ => r = .none ∧ ∃ h' tk L es ep t, s₂ = { s with heap := h', toks := tk } ∧ SetTR P w h' s.heap.objs.size L es ep t ∧ L2.Got ks ks.length L ∧
          (∀ b o, s.heap.get? b = some o → h'.get? b = some o)) E) F.called_set.init.plain F.entry_set_init (check_set_init_1 hT ?_)) fun r₂ s₂ hr₂ => ?_
      · obtain ⟨ol, hol, hcl, nl, hdl⟩ := hl
        obtain ⟨ocls, odict, odata, oslots⟩ := ol
        simp only at hcl hdl
        subst hcl; subst hdl
        have hol' : (s.heap.push { cls := .type "set", dict := none, data := .set #[] 0 (.fresh 0 0 (!w.params.followText "set-order")) }).get? l = some { cls := .type "tuple", dict := odict, data := .seq items nl, slots := oslots } := Heap.get?_push_of_some _ hol
        have hsls := F.sub_tuple_set
        have hslf := F.sub_tuple_frozenset
        have hne : (Value.type "tuple" == Value.type "dict") = false := by decide
        have hl1 : (s.heap.push { cls := .type "set", dict := none, data := .set #[] 0 (.fresh 0 0 (!w.params.followText "set-order")) }).IsTuple l items := ⟨_, hol', rfl, nl, rfl⟩
        unfold Builtin.«set.__init__» noKeywords Builtin.Frozenset.updateFrom
        generalize hPI : pyIter = PI
        wp_walk
        subst hPI
        refine wpAny_pyIter_tuple hl1 ?_
        refine wpAny_bind (wpAny_runValue ?_)
        have hlS : l < s.heap.objs.size := Heap.lt_size hol
        have hh3 : A.in1.in1.in1.handled = none := by simp [hh]
        have hneI : l ≠ (s.heap.push { cls := .type "set", dict := none, data := .set #[] 0 (.fresh 0 0 (!w.params.followText "set-order")) }).objs.size := by
          rw [Heap.size_push]; exact Nat.ne_of_lt (Nat.lt_succ_of_lt hlS)
        have hSf : s.heap.objs.size ∉ [(s.heap.push { cls := .type "set", dict := none, data := .set #[] 0 (.fresh 0 0 (!w.params.followText "set-order")) }).objs.size, l] := by
          rw [Heap.size_push]; simp only [List.mem_cons, List.mem_singleton, List.not_mem_nil, or_false, not_or]
          exact ⟨Nat.ne_of_lt (Nat.lt_succ_self _), Nat.ne_of_gt hlS⟩
        have hval : ∀ (i : Nat) (v : Value), items[i]? = some v → ∃ p, ks[i]? = some p ∧ v = .ref p.1 := fun i v hv => by
          have q : items.toList[i]? = some v := by rw [Array.getElem?_toList]; exact hv
          rw [hit, List.getElem?_map] at q
          cases hq : ks[i]? with
          | none => rw [hq] at q; cases q
          | some p =>
            rw [hq] at q
            exact ⟨p, rfl, (Option.some.inj q).symm⟩
        have none_of : ∀ b, s.heap.objs.size ≤ b → s.heap.get? b = none := fun b hb => by
          cases q : s.heap.get? b with
          | none => rfl
          | some o => exact absurd (Nat.lt_of_lt_of_le (Heap.lt_size q) hb) (Nat.lt_irrefl _)
        refine set_update_tups ((Walks.tuple hh3 _ l hneI items).toS) s.heap.objs.size
          hSf ks hisz hfew hval s.heap hk (none_of _ (Nat.le_refl _)) (fun b hb => none_of b (by
            rw [List.mem_singleton.mp hb, Heap.size_push]
            exact Nat.le_succ _)) hu (items.size - 0) 0 _ (by omega) (Nat.zero_le _)
          ⟨⟨_, Heap.get?_push_size _ rfl, rfl, rfl⟩, (hl1.push _)⟩ (fun b o e => Heap.get?_push_of_some _ (Heap.get?_push_of_some _ e)) ?hS0 ?hR
        case hS0 =>
          exact ⟨[], #[], 0, _, setTR_fresh (Heap.get?_push_of_some _ hS), L2.Got.zero ks⟩
        case hR =>
          intro s' L es ep t hm hS' g' hkp
          obtain ⟨h', g2, d', tk', os'⟩ := s'
          have eg : g2 = s.gens := hm.gens
          have ed : d' = s.drawn := hm.drawn
          have eo : os' = s.os := hm.os
          subst eg; subst ed; subst eo
          show wpAny _ _ _ _ _ _
          refine wpAny_pure ?_
          show wpAny _ _ (ret Value.none) _ _ _
          rw [hisz] at g'
          exact wpAny_pure ⟨rfl, h', tk', L, es, ep, t, rfl, hS', g', hkp⟩
      · cases r₂ with
        | error e => exact hr₂
        | ok fl₂ =>
          cases fl₂ with
          | ret r =>
            obtain ⟨rfl, h', tk, L, es, ep, t, rfl, hS', g', hk'⟩ := hr₂
            repeat (any_goals (first | assumption | wp_step))
            exact h _ _ _ _ _ _ hS' g' hk'
          | _ => exact hr₂.elim
    | _ => exact hr.elim
end
section
variable {X : Cx}
/-- sorted(set(xs)), xs a tuple of pairs of ints: the set -/
def rSetOfTT (K : PySem.W.Frag) (P : Program) (w : World) : List V → Hp → VK → Prop := fun xs H Q => ∃ (l : Addr) (ks : List (Addr × List Int)), xs = [V.ref l] ∧ SqT K H l (ks.map fun p => V.ref p.1) ∧ (∀ p ∈ ks, SqT K H p.1 (p.2.map V.int)) ∧ ks.length < 64 ∧
  ∀ a L, H a = none → (∀ p ∈ L, p ∈ ks) → (∀ p ∈ ks, p.2 ∈ L.map (·.2)) → Q (.ref a) (upd H a (SetTO P w a L))
theorem cr_setOfTT (hc : X.calm = true) (hu : X.A.units + 64 < cLine) : CallR X (.type "set") (rSetOfTT X.K X.prog X.w) := by
  intro pins s σ H xs us Q I r h
  obtain ⟨l, ks, rfl, hl, hk, hf, q⟩ := h
  rw [Vals.ref1 r]
  obtain ⟨its, rv, pl, hz⟩ := I.tuple hl
  have hn : H s.heap.objs.size = none := I.hok.fresh (Nat.le_refl _)
  refine call_set_tupsT (P := X.prog) (w := X.w) ks (I.ok.hd hc) pl (by simpa using refs_of_vals rv) (fun p hp => I.isT (hk p hp)) hf (by omega) fun h' tk L es ep t R g k => ?_
  refine ⟨.ref s.heap.objs.size, upd H s.heap.objs.size (SetTO X.prog X.w s.heap.objs.size L), I.laid (t' := tk) k (Nat.le_refl _) (setTO_new R.t0), rfl, q _ L hn (fun p hp => ?_) fun p hp => ?_⟩
  · exact List.mem_of_mem_take (g.sub p hp)
  · exact g.all p (by rw [List.take_length]; exact hp)
end
end Den

set_option Elab.async false
set_option linter.all false
set_option maxRecDepth 100000
/-! DenSu: sorted(set(e)) as an expression. -/
namespace Den
open PySem PySem.Spec PyProof.Rows L2
section
variable {X : Cx}
/-! ### sorted(set(e)), len(set(e)) -/
theorem ded_ints : ∀ (l : List Int), ∃ m : List Int, dedupD (l.map .int) = m.map .int ∧ m.Nodup ∧ ∀ k, k ∈ m ↔ k ∈ l
  | [] => ⟨[], rfl, List.nodup_nil, fun k => Iff.rfl⟩
  | x :: r => by
    obtain ⟨m, h1, h2, h3⟩ := ded_ints r
    have e : ((r.map PyData.int).any (PyData.eqv (.int x))) = decide (x ∈ r) := by
      have : ∀ (l : List Int), ((l.map PyData.int).any (PyData.eqv (.int x))) = decide (x ∈ l) := fun l => by
        induction l with
        | nil => simp
        | cons y l ih =>
          rw [List.map_cons, List.any_cons, ih, PyData.eqv]
          by_cases z : x = y <;> simp [z]
      exact this r
    show ∃ m : List Int, (if (r.map PyData.int).any (PyData.eqv (.int x)) then dedupD (r.map .int) else .int x :: dedupD (r.map .int)) = m.map .int ∧ _
    rw [e, h1]
    by_cases hx : x ∈ r
    · refine ⟨m, by rw [decide_eq_true hx]; rfl, h2, fun k => ?_⟩
      rw [h3, List.mem_cons]
      exact ⟨.inr, fun z => z.elim (fun z => z ▸ hx) id⟩
    · refine ⟨x :: m, by rw [decide_eq_false hx]; rfl, List.nodup_cons.mpr ⟨fun z => hx ((h3 x).mp z), h2⟩, fun k => ?_⟩
      rw [List.mem_cons, List.mem_cons, h3]
theorem sortL_intsS (l : List Int) : sortL (l.map .int) = (l.mergeSort fun a b => decide (a ≤ b)).map .int := by
  unfold sortL
  have e := PySem.W.dataLe_int (fun b : Int => b)
  have := List.map_mergeSort (r := PySem.W.dataLe false (fun b : Int => PyData.int b)) (s := PySem.W.dataLe false id) (f := PyData.int) (l := l) (fun a _ b _ => rfl)
  rw [← this, e]
theorem sorted_one {l m ns : List Int} (h1 : m.Nodup) (h2 : ∀ k, k ∈ m ↔ k ∈ l) (h3 : ns.Pairwise (· < ·)) (h4 : ∀ k, k ∈ ns ↔ k ∈ l) : sortL (m.map .int) = ns.map .int := by
  rw [sortL_intsS]
  have p : (m.mergeSort fun a b => decide (a ≤ b)).Perm ns := by
    refine (List.mergeSort_perm m _).trans ((List.perm_ext_iff_of_nodup h1 (h3.imp fun h e => by omega)).mpr fun k => ?_)
    rw [h2, h4]
  have s1 : (m.mergeSort fun a b => decide (a ≤ b)).Pairwise fun a b => decide (a ≤ b) = true := List.pairwise_mergeSort (fun a b c h h' => by simp at *; omega) (fun a b => by simp; omega) m
  rw [p.eq_of_pairwise (le := fun a b => decide (a ≤ b) = true) (fun a b _ _ h h' => by simp at *; omega) s1 (h3.imp fun h => by simp; omega)]
/-! pairs of ints from 0 to 63 -/
def f2 (a : Int × Int) : D := .tuple [.int a.1, .int a.2]
def plt (a b : Int × Int) : Bool := if a.1 = b.1 then decide (a.2 < b.2) else decide (a.1 < b.1)
def ple (a b : Int × Int) : Bool := !plt b a
theorem eqv_f2 (a b : Int × Int) : PyData.eqv (f2 a) (f2 b) = decide (a = b) := by
  obtain ⟨a1, a2⟩ := a
  obtain ⟨b1, b2⟩ := b
  by_cases h1 : a1 = b1 <;> by_cases h2 : a2 = b2 <;> simp [f2, PyData.eqv, PyData.eqvAll, h1, h2]
theorem lt_f2 (a b : Int × Int) : PySem.W.dataLt (f2 a) (f2 b) = plt a b := by
  obtain ⟨a1, a2⟩ := a
  obtain ⟨b1, b2⟩ := b
  have e0 : PySem.W.dataLt (.tuple []) (.tuple []) = false := by rw [PySem.W.dataLt_tuple]; rfl
  have step : ∀ (x y : Int) (xs ys : List D), PySem.W.dataLt (.tuple (.int x :: xs)) (.tuple (.int y :: ys)) = if PyData.eqv (.int x) (.int y) = true then PySem.W.dataLt (.tuple xs) (.tuple ys) else PySem.W.dataLt (.int x) (.int y) := fun x y xs ys => by
    rw [PySem.W.dataLt_tuple, PySem.W.dataLt_cons (x := .int x) (y := .int y) rfl, PySem.W.dataLt_tuple]
  have ei : ∀ x y : Int, PyData.eqv (.int x) (.int y) = decide (x = y) := fun x y => by
    rw [PyData.eqv]
    by_cases h : x = y <;> simp [h]
  unfold f2 plt
  simp only []
  rw [step, step, e0, PySem.W.dataLt_int, PySem.W.dataLt_int, ei, ei]
  by_cases h1 : a1 = b1
  · rw [if_pos (decide_eq_true h1), if_pos h1]
    by_cases h2 : a2 = b2
    · rw [if_pos (decide_eq_true h2), h2]
      exact (decide_eq_false (by omega)).symm
    · rw [if_neg (by simpa using h2)]
  · rw [if_neg (by simpa using h1), if_neg h1]
theorem plt_iff (a b : Int × Int) : plt a b = true ↔ a.1 < b.1 ∨ a.1 = b.1 ∧ a.2 < b.2 := by
  unfold plt
  split <;> simp <;> omega
theorem ple_iff (a b : Int × Int) : ple a b = true ↔ a.1 < b.1 ∨ a.1 = b.1 ∧ a.2 ≤ b.2 := by
  unfold ple
  rw [Bool.not_eq_true', ← Bool.not_eq_true, plt_iff]
  omega
theorem ded_gen {α : Type} [DecidableEq α] {f : α → D} (hf : ∀ x y, PyData.eqv (f x) (f y) = decide (x = y)) : ∀ l : List α, ∃ m : List α, dedupD (l.map f) = m.map f ∧ m.Nodup ∧ ∀ k, k ∈ m ↔ k ∈ l
  | [] => ⟨[], rfl, List.nodup_nil, fun k => Iff.rfl⟩
  | x :: r => by
    obtain ⟨m, h1, h2, h3⟩ := ded_gen hf r
    have e : ((r.map f).any (PyData.eqv (f x))) = decide (x ∈ r) := by
      clear h1 h2 h3
      induction r with
      | nil => simp
      | cons y l ih =>
        rw [List.map_cons, List.any_cons, ih, hf]
        by_cases z : x = y <;> simp [z]
    show ∃ m : List α, (if (r.map f).any (PyData.eqv (f x)) then dedupD (r.map f) else f x :: dedupD (r.map f)) = m.map f ∧ _
    rw [e, h1]
    by_cases hx : x ∈ r
    · refine ⟨m, by rw [decide_eq_true hx]; rfl, h2, fun k => ?_⟩
      rw [h3, List.mem_cons]
      exact ⟨.inr, fun z => z.elim (fun z => z ▸ hx) id⟩
    · refine ⟨x :: m, by rw [decide_eq_false hx]; rfl, List.nodup_cons.mpr ⟨fun z => hx ((h3 x).mp z), h2⟩, fun k => ?_⟩
      rw [List.mem_cons, List.mem_cons, h3]
theorem sortL_f2 (m : List (Int × Int)) : sortL (m.map f2) = (m.mergeSort ple).map f2 := by
  unfold sortL
  have e := List.map_mergeSort (r := ple) (s := PySem.W.dataLe false id) (f := f2) (l := m) fun z _ y _ => by
    show (!plt y z) = !PySem.W.dataLt (f2 y) (f2 z)
    rw [lt_f2]
  rw [← e]
theorem sorted_two {l m ns : List (Int × Int)} (h1 : m.Nodup) (h2 : ∀ k, k ∈ m ↔ k ∈ l) (h3 : ns.Nodup) (h4 : ∀ k, k ∈ ns ↔ k ∈ l) (h5 : ns.Pairwise fun a b => ple a b = true) : sortL (m.map f2) = ns.map f2 := by
  rw [sortL_f2]
  have p : (m.mergeSort ple).Perm ns := (List.mergeSort_perm m _).trans ((List.perm_ext_iff_of_nodup h1 h3).mpr fun k => by rw [h2, h4])
  have s1 : (m.mergeSort ple).Pairwise fun a b => ple a b = true := List.pairwise_mergeSort (fun a b c h h' => by rw [ple_iff] at *; omega) (fun a b => by rw [Bool.or_eq_true, ple_iff, ple_iff]; omega) m
  rw [p.eq_of_pairwise (le := fun a b => ple a b = true) (fun a b _ _ h h' => by rw [ple_iff] at *; exact Prod.ext (by omega) (by omega)) s1 h5]
theorem pr64_is {d : D} (h : pr64 d = true) : ∃ a : Int × Int, d = f2 a ∧ (0 ≤ a.1 ∧ a.1 < 64) ∧ 0 ≤ a.2 ∧ a.2 < 64 := by
  unfold pr64 at h
  split at h
  · rename_i i j
    rw [Bool.and_eq_true] at h
    exact ⟨(i, j), rfl, of_decide_eq_true h.1, of_decide_eq_true h.2⟩
  · cases h
theorem reps_pairs {K : PySem.W.Frag} {H : Hp} {b : Bool} : ∀ {us : List V} {xs : List D} {f : List Addr}, Reps K H b us xs f → xs.all pr64 = true → ∃ ks : List (Addr × (Int × Int)), us = ks.map (fun p => V.ref p.1) ∧ xs = ks.map (fun p => f2 p.2) ∧ ∀ p ∈ ks, H p.1 = some (.tup [V.int p.2.1, V.int p.2.2]) ∧ (0 ≤ p.2.1 ∧ p.2.1 < 64) ∧ 0 ≤ p.2.2 ∧ p.2.2 < 64
  | _, _, _, .nil, _ => ⟨[], rfl, rfl, fun p hp => by cases hp⟩
  | _, _, _, .cons (d := d) r rs, h => by
    rw [List.all_cons, Bool.and_eq_true] at h
    obtain ⟨ks, e1, e2, e3⟩ := reps_pairs rs h.2
    obtain ⟨a, rfl, ha⟩ := pr64_is h.1
    obtain ⟨t, ws, rfl, ht, ru⟩ := r.t
    have hw : ws = [V.int a.1, V.int a.2] := by
      have := ru.ints (ns := [a.1, a.2]) rfl
      exact this
    refine ⟨(t, a) :: ks, by rw [e1]; rfl, by rw [e2]; rfl, fun p hp => ?_⟩
    rcases List.mem_cons.mp hp with rfl | hp
    · exact ⟨by rw [ht, hw], ha⟩
    · exact e3 p hp
variable {cal : Nat → List (Bool × D) → Option (Bool × D)} {a : Expr} {ea : E} {pos pos2 p p2 : Pos}
theorem Q_sset (hc : X.calm = true) (hu : X.A.units + 64 < cLine) (hg : Gl X "sorted") (hm : X.mg "sorted" = none) (hg2 : Gl X "set") (hm2 : X.mg "set" = none) (ha : QE X a (ev cal ea false)) (hs : noStar a = true) :
    QE X (.Call (.Name "sorted" p) [.Call (.Name "set" p2) [a] [] pos2] [] pos) (ev cal (.bi .sortedSet (.cons ea .nil)) false) := by
  have q1 : PE X (.Call (.Name "set" p2) [a] [] pos2) (tCB (fun xs H Q => rSetOfI X.K X.w xs H Q ∨ rSetOfTT X.K X.prog X.w xs H Q) (tCons (tQ X.K (ev cal ea false)) tNil)) := pe_callTy (CallR.or2 (cr_setOfI hc) (cr_setOfTT hc hu)) hg2 hm2 (by decide +kernel) (pa_cons ha pa_nil (star_of hs)) (by decide +kernel) rfl (star_of hs) rfl
  refine pe_imp (pe_callB (CallR.or2 (cr_sortedSet hc) (cr_sortedT hc)) hg hm (by decide +kernel) (pa_cons q1 pa_nil rfl) (by decide +kernel) rfl rfl rfl) fun σ H Q ⟨ρ, φ, bb, d, R, e, q⟩ => ?_
  simp only [ev, fin, Bool.false_eq_true, if_false, evs] at e
  split at e
  · cases e
  rename_i ps e1
  split at e1
  · cases e1
  rename_i pq e2
  obtain ⟨b0, d0⟩ := pq
  cases e1
  cases d0 with
  | list xs =>
    simp only [biD] at e
    split at e
    · rename_i hz
      rw [Bool.and_eq_true, decide_eq_true_eq] at hz
      obtain ⟨h64, hi⟩ := hz
      simp only [Option.some.injEq, Prod.mk.injEq] at e
      obtain ⟨rfl, rfl⟩ := e
      obtain ⟨ns, hns⟩ := Option.isSome_iff_exists.mp hi
      refine ⟨ρ, φ, b0, _, R, e2, fun v H1 g G => ?_⟩
      obtain ⟨l, ws, fs, rfl, hl, rs, rfl⟩ := G.rep.l
      obtain rfl := rs.ints hns
      have hxs : xs = ns.map .int := by
        have : ∀ (xs : List D) (ns : List Int), intsD xs = some ns → xs = ns.map .int := fun xs => by
          induction xs with
          | nil => intro ns h; cases h; rfl
          | cons x r ih =>
            intro ns h
            cases x with
            | int i =>
              obtain ⟨m, h1, rfl⟩ := Option.map_eq_some_iff.mp (show (intsD r).map (i :: ·) = some ns from h)
              rw [ih m h1]; rfl
            | _ => exact nomatch h
        exact this xs ns hns
      subst hxs
      rw [List.length_map] at h64
      refine .inl ⟨l, ns, rfl, .inl hl.rd, h64, fun S n p Gt hp => .inl ⟨p, S, n, rfl, upd_same, ?_, fun out pp h1 h2 h3 hpp => ?_⟩⟩
      · have := Gt.len
        omega
      · obtain ⟨m, d1, d2, d3⟩ := ded_ints ns
        have hq : sortL (dedupD (ns.map .int)) = out.map .int := by rw [d1, sorted_one d2 d3 h1 (fun k => by rw [h2, Gt.mem, List.take_length])]
        have hpf : H1 pp = none := by
          unfold upd at hpp
          split at hpp
          · cases hpp
          · exact hpp
        have ns2 : Same H1 (upd (upd H1 p (SetO X.w p S n)) pp (.lst (out.map V.int))) := (same_new hp).trans (same_new hpp)
        refine q _ _ [pp] ⟨G.same.trans ns2, ?_, fun _ => ⟨by simp, fun a m => by rw [List.mem_singleton.mp m]; exact G.same.free hpf⟩, fun a m => .inl (by rw [List.mem_singleton.mp m]; exact G.same.free hpf)⟩
        have : ∀ (l : List Int), Reps X.K (upd (upd H1 p (SetO X.w p S n)) pp (.lst (out.map V.int))) true (l.map V.int) (l.map .int) [] := fun l => by
          induction l with
          | nil => exact .nil
          | cons x r ih => exact Reps.cons (f := []) (fs := []) (.int x) ih
        rw [hq]
        exact .lst (b := true) upd_same (this out)
    · cases e
  | tuple xs =>
    simp only [biD] at e
    split at e
    · rename_i hz
      rw [Bool.and_eq_true, decide_eq_true_eq] at hz
      obtain ⟨h64, hi⟩ := hz
      simp only [Option.some.injEq, Prod.mk.injEq] at e
      obtain ⟨rfl, rfl⟩ := e
      refine ⟨ρ, φ, b0, _, R, e2, fun v H1 g G => ?_⟩
      obtain ⟨l, ws, rfl, hl, rs⟩ := G.rep.t
      obtain ⟨k0, rfl, rfl, hk⟩ := reps_pairs rs hi
      rw [List.length_map] at h64
      obtain ⟨ks, hks⟩ : ∃ ks : List (Addr × List Int), ks = k0.map fun p => (p.1, [p.2.1, p.2.2]) := ⟨_, rfl⟩
      have hin : ∀ p ∈ ks, ∃ q ∈ k0, p = (q.1, [q.2.1, q.2.2]) := fun p hp => by
        rw [hks] at hp
        obtain ⟨q, hq, rfl⟩ := List.mem_map.mp hp
        exact ⟨q, hq, rfl⟩
      refine .inr ⟨l, ks, rfl, ?_, fun p hp => ?_, by rw [hks, List.length_map]; exact h64, fun S L hS hL1 hL2 => .inr ⟨S, L, 2, 64, rfl, upd_same, fun p hp => ?_, by decide, fun p hp => ?_, fun L' pp pm nd few pw hpp => ?_⟩⟩
      · rw [hks, List.map_map]
        exact SqT.of hl
      · obtain ⟨q, hq, rfl⟩ := hin p hp
        exact SqT.of (hk q hq).1
      · obtain ⟨q, hq, rfl⟩ := hin p (hL1 p hp)
        refine SqT.of ?_
        have := (hk q hq).1
        rw [upd_ne (fun z => by rw [← z] at hS; rw [hS] at this; cases this)]
        exact this
      · obtain ⟨q, hq, rfl⟩ := hin p (hL1 p hp)
        refine ⟨rfl, fun x hx => ?_⟩
        have := (hk q hq).2
        rcases List.mem_cons.mp hx with rfl | hx
        · exact this.1
        · rw [List.mem_singleton.mp hx]; exact this.2
      · have hL' : ∀ p ∈ L', ∃ q ∈ k0, p = (q.1, [q.2.1, q.2.2]) := fun p hp => hin p (hL1 p (pm.mem_iff.mp hp))
        obtain ⟨ns, hns⟩ : ∃ ns : List (Addr × (Int × Int)), ns = L'.map fun p => (p.1, (p.2.getD 0 0, p.2.getD 1 0)) := ⟨_, rfl⟩
        have eL : L' = ns.map fun p => (p.1, [p.2.1, p.2.2]) := by
          rw [hns, List.map_map]
          refine (List.map_id L').symm.trans (List.map_congr_left fun p hp => ?_)
          obtain ⟨q, _, rfl⟩ := hL' p hp
          rfl
        have hnk : ∀ p ∈ ns, p ∈ k0 := fun p hp => by
          rw [hns] at hp
          obtain ⟨z, hz, rfl⟩ := List.mem_map.mp hp
          obtain ⟨q, hq, rfl⟩ := hL' z hz
          exact hq
        obtain ⟨m, d1, d2, d3⟩ := ded_gen eqv_f2 (k0.map (·.2))
        have hq : sortL (dedupD (k0.map fun p => f2 p.2)) = ns.map fun p => f2 p.2 := by
          have e3 : (k0.map fun p => f2 p.2) = (k0.map (·.2)).map f2 := by rw [List.map_map]; rfl
          have e4 : (ns.map fun p => f2 p.2) = (ns.map (·.2)).map f2 := by rw [List.map_map]; rfl
          rw [e3, d1, e4]
          refine sorted_two d2 d3 ?_ (fun k => ⟨fun hk2 => ?_, fun hk2 => ?_⟩) ?_
          · rw [eL, List.map_map] at nd
            have e5 : (ns.map ((fun x : Addr × List Int => x.2) ∘ fun p : Addr × (Int × Int) => (p.1, [p.2.1, p.2.2]))) = (ns.map (·.2)).map fun a : Int × Int => [a.1, a.2] := by rw [List.map_map]; rfl
            rw [e5] at nd
            exact List.Pairwise.of_map _ (fun a b hne e => hne (by rw [e])) nd
          · obtain ⟨p, hp, rfl⟩ := List.mem_map.mp hk2
            exact List.mem_map.mpr ⟨p, hnk p hp, rfl⟩
          · obtain ⟨p, hp, rfl⟩ := List.mem_map.mp hk2
            have h6 : (p.1, [p.2.1, p.2.2]) ∈ ks := by rw [hks]; exact List.mem_map.mpr ⟨p, hp, rfl⟩
            obtain ⟨z, hz, ez⟩ := List.mem_map.mp (hL2 _ h6)
            have hz' := pm.mem_iff.mpr hz
            rw [eL] at hz'
            obtain ⟨y, hy, rfl⟩ := List.mem_map.mp hz'
            have : y.2 = p.2 := by
              simp only [List.cons.injEq, and_true] at ez
              exact Prod.ext ez.1 ez.2
            exact List.mem_map.mpr ⟨y, hy, this⟩
          · rw [eL] at pw
            refine List.pairwise_map.mpr ((List.pairwise_map.mp pw).imp_of_mem fun {a b} ha hb hle => ?_)
            have b1 := (hk a (hnk a ha)).2
            have b2 := (hk b (hnk b hb)).2
            rw [code_pair, code_pair] at hle
            rw [ple_iff]
            omega
        have hpf : H1 pp = none := by
          unfold upd at hpp
          split at hpp
          · cases hpp
          · exact hpp
        have ns2 : Same H1 (upd (upd H1 S (SetTO X.prog X.w S L)) pp (.lst (L'.map fun q => V.ref q.1))) := (same_new hS).trans (same_new hpp)
        refine q _ _ [pp] ⟨G.same.trans ns2, ?_, fun _ => ⟨by simp, fun a m => by rw [List.mem_singleton.mp m]; exact G.same.free hpf⟩, fun a m => .inl (by rw [List.mem_singleton.mp m]; exact G.same.free hpf)⟩
        have this : ∀ (l : List (Addr × (Int × Int))), (∀ p ∈ l, p ∈ k0) → Reps X.K (upd (upd H1 S (SetTO X.prog X.w S L)) pp (.lst (L'.map fun q => V.ref q.1))) true (l.map fun p => V.ref p.1) (l.map fun p => f2 p.2) [] := fun l => by
          induction l with
          | nil => intro _; exact .nil
          | cons x r ih =>
            intro hl
            have ht := ns2.at (hk x (hl x List.mem_cons_self)).1 fun ps z => nomatch z
            exact Reps.cons (f := []) (fs := []) (.tup ht (Reps.cons (f := []) (fs := []) (.int _) (Reps.cons (f := []) (fs := []) (.int _) .nil))) (ih fun p hp => hl p (List.mem_cons_of_mem _ hp))
        rw [hq]
        have eV : (L'.map fun q => V.ref q.1) = ns.map fun p => V.ref p.1 := by rw [eL, List.map_map]; rfl
        refine .lst (b := true) (xs := ns.map fun p => V.ref p.1) ?_ (this ns hnk)
        rw [← eV]
        exact upd_same
    · cases e
  | _ => simp [biD] at e
theorem ints_is : ∀ (xs : List D) (ns : List Int), intsD xs = some ns → xs = ns.map .int
  | [], ns, h => by cases h; rfl
  | .int i :: r, ns, h => by
    obtain ⟨m, h1, rfl⟩ := Option.map_eq_some_iff.mp (show (intsD r).map (i :: ·) = some ns from h)
    rw [ints_is r m h1]; rfl
theorem ded_len {ns m : List Int} (h1 : m.Nodup) (h2 : ∀ k, k ∈ m ↔ k ∈ ns) : (dedupD (ns.map .int)).length = m.length := by
  obtain ⟨d, e, d2, d3⟩ := ded_ints ns
  rw [e, List.length_map]
  exact ((List.perm_ext_iff_of_nodup d2 h1).mpr fun k => by rw [d3, h2]).length_eq
theorem Q_lset (hc : X.calm = true) (hg : Gl X "len") (hm : X.mg "len" = none) (hg2 : Gl X "set") (hm2 : X.mg "set" = none) (ha : QE X a (ev cal ea false)) (hs : noStar a = true) :
    QE X (.Call (.Name "len" p) [.Call (.Name "set" p2) [a] [] pos2] [] pos) (ev cal (.bi .lenSet (.cons ea .nil)) false) := by
  have q1 : PE X (.Call (.Name "set" p2) [a] [] pos2) (tCB (fun xs H Q => rSetOfI X.K X.w xs H Q ∨ rSetOfT X.K X.w xs H Q) (tCons (tQ X.K (ev cal ea false)) tNil)) := pe_callTy (CallR.or2 (cr_setOfI hc) (cr_setOfT hc)) hg2 hm2 (by decide +kernel) (pa_cons ha pa_nil (star_of hs)) (by decide +kernel) rfl (star_of hs) rfl
  refine pe_imp (pe_callB cr_lenSet hg hm (by decide +kernel) (pa_cons q1 pa_nil rfl) (by decide +kernel) rfl rfl rfl) fun σ H Q ⟨ρ, φ, bb, d, R, e, q⟩ => ?_
  simp only [ev, fin, Bool.false_eq_true, if_false, evs] at e
  split at e
  · cases e
  rename_i ps e1
  split at e1
  · cases e1
  rename_i pq e2
  obtain ⟨b0, d0⟩ := pq
  cases e1
  cases d0 with
  | list xs =>
    simp only [biD] at e
    split at e
    · rename_i hz
      rw [Bool.and_eq_true, decide_eq_true_eq] at hz
      obtain ⟨h64, hi⟩ := hz
      simp only [Option.some.injEq, Prod.mk.injEq] at e
      obtain ⟨rfl, rfl⟩ := e
      obtain ⟨ns, hns⟩ := Option.isSome_iff_exists.mp hi
      refine ⟨ρ, φ, b0, _, R, e2, fun v H1 g G => ?_⟩
      obtain ⟨l, ws, fs, rfl, hl, rs, rfl⟩ := G.rep.l
      obtain rfl := rs.ints hns
      obtain rfl := ints_is xs ns hns
      rw [List.length_map] at h64
      refine .inl ⟨l, ns, rfl, .inl hl.rd, h64, fun S n p Gt hp => ⟨p, S, n, rfl, upd_same, fun m d1 d2 d3 => ?_⟩⟩
      have hq : (dedupD (ns.map .int)).length = n := by
        rw [ded_len d1 fun k => by rw [d2, Gt.mem, List.take_length], d3]
      rw [hq] at q
      exact q _ _ [] (Got.scalar (G.same.trans (same_new hp)) (.int _))
    · cases e
  | tuple xs =>
    simp only [biD] at e
    split at e
    · rename_i hz
      rw [Bool.and_eq_true, decide_eq_true_eq] at hz
      obtain ⟨h64, hi⟩ := hz
      simp only [Option.some.injEq, Prod.mk.injEq] at e
      obtain ⟨rfl, rfl⟩ := e
      obtain ⟨ns, hns⟩ := Option.isSome_iff_exists.mp hi
      refine ⟨ρ, φ, b0, _, R, e2, fun v H1 g G => ?_⟩
      obtain ⟨l, ws, rfl, hl, rs⟩ := G.rep.t
      obtain rfl := rs.ints hns
      obtain rfl := ints_is xs ns hns
      rw [List.length_map] at h64
      refine .inr ⟨l, ns, rfl, SqT.of hl, h64, fun S n p hS hp => ⟨p, S, n, rfl, upd_same, fun m d1 d2 d3 => ?_⟩⟩
      have hq : (dedupD (ns.map .int)).length = n := by
        rw [ded_len d1 fun k => by rw [d2, hS], d3]
      rw [hq] at q
      exact q _ _ [] (Got.scalar (G.same.trans (same_new hp)) (.int _))
    · cases e
  | _ => simp [biD] at e
end
end Den

set_option Elab.async false
set_option linter.all false
set_option maxRecDepth 100000
/-! DenRev: xs[::-1] of a list or a tuple. -/
namespace HT
open PySem PySem.Spec PyProof.Rows L2
section
variable {prog : Program} {w : World} {A : Around} {E : Value → Shared → Prop} {s : Shared}
theorem rev_applied {sl : Addr} {vl vu vs : Value} {n : Nat} {Q : Int × Int × Nat → Shared → Prop} (hs : s.heap.IsSliceOf sl vl vu vs) (pl : IsPart vl none) (pu : IsPart vu none) (ps : IsPart vs (some (-1)))
    (h : Q ((n : Int) - 1, -1, n) s) : wpAny (model prog w) A (Builtin.Slice.sliceApplied (.ref sl) (pure (n : Int))) Q E s := by
  obtain ⟨os, hos, hcs, hds⟩ := id hs
  unfold Builtin.Slice.sliceApplied Builtin.Slice.sliceFields
  refine wpAny_bind (wpAny_bind (wpAny_field hos hds (x := vl) rfl (wpAny_bind (wpAny_field hos hds (x := vu) rfl (wpAny_bind (wpAny_field hos hds (x := vs) rfl (wpAny_pure ?_)))))))
  refine wpAny_bind (slicePart_ ps ?_)
  show wpAny _ _ (if ((-1 : Int) == 0) = true then _ else _) _ _ s
  rw [if_neg (by decide)]
  refine wpAny_bind (slicePart_ pl (wpAny_bind (slicePart_ pu (wpAny_bind (wpAny_pure ?_)))))
  show wpAny _ _ (pure ((n : Int) - 1, (-1 : Int), Builtin.Slice.slicePlaces ((n : Int) - 1) (-1) (-1))) _ _ s
  have e : Builtin.Slice.slicePlaces ((n : Int) - 1) (-1) (-1) = n := by
    unfold Builtin.Slice.slicePlaces
    rw [if_neg (by decide)]
    split
    · rw [show -(-1 : Int) = 1 by decide, Int.ediv_one]
      omega
    · omega
  rw [e]
  exact wpAny_pure h
theorem fm_congr {α β : Type} {f g : α → Option β} : ∀ {l : List α}, (∀ x ∈ l, f x = g x) → l.filterMap f = l.filterMap g
  | [], _ => rfl
  | x :: r, h => by
    rw [List.filterMap_cons, List.filterMap_cons, h x (List.mem_cons_self ..), fm_congr fun y hy => h y (List.mem_cons_of_mem _ hy)]
theorem rev_pick (xs : Array Value) : ((List.range xs.size).filterMap fun (m : Nat) => xs[(((xs.size : Int) - 1) + (m : Int) * (-1)).toNat]?).toArray = xs.toList.reverse.toArray := by
  congr 1
  have e : ∀ m ∈ List.range xs.size, xs[(((xs.size : Int) - 1) + (m : Int) * (-1)).toNat]? = (some ∘ fun m => xs.toList.reverse.getD m .none) m := fun m hm => by
    have hm := List.mem_range.mp hm
    have h1 : (((xs.size : Int) - 1) + (m : Int) * (-1)).toNat = xs.size - 1 - m := by omega
    have h2 : m < xs.toList.reverse.length := by simpa using hm
    have h3 : xs.size - 1 - m < xs.size := by omega
    rw [h1]
    simp [h3, hm]
  rw [fm_congr e, List.filterMap_eq_map]
  apply List.ext_getElem?
  intro i
  by_cases h : i < xs.size
  · simp [h]
  · simp [h]
theorem getItem_tuple_rev {t sl : Addr} {items : Array Value} {vl vu vs : Value} {Q : Value → Shared → Prop} (ht : IsTup s.heap t items) (hs : s.heap.IsSliceOf sl vl vu vs) (pl : IsPart vl none) (pu : IsPart vu none) (ps : IsPart vs (some (-1)))
    (h : Q (.ref s.heap.objs.size) { s with heap := s.heap.push { cls := .type "tuple", data := .seq items.toList.reverse.toArray } })
    (hsz : items.size ≤ sizeLine) : wpAny (model prog w) A (getItem (.ref t) (.ref sl)) Q E s := by
  have htake : sizeOk (.seq items.toList.reverse.toArray) := by
    show items.toList.reverse.toArray.size ≤ sizeLine
    rw [List.size_toArray, List.length_reverse, Array.length_toList]
    exact hsz
  obtain ⟨os, hos, hcs, hds⟩ := id hs
  have hTs : s.TypeIs (.ref sl) "slice" := ⟨os, hos, hcs⟩
  unfold getItem
  try with_reducible refine wpAny_holding ?_
  first | refine wpAny_bind (wpAny_pure ?_) | skip
  refine wpAny_bind (wpAny_sequenceKey ht.typeIs (by decide) ?_)
  refine wpAny_bind (wpAny_callSpecial?_slot (name := Str.ofString "__getitem__") ht.typeIs PyProof.Rows.slot_tuple_getitem
    (wpAny_call_entry PyProof.Rows.slot_tuple_getitem ht.typeIs entry_tuple_getitem ?_ (args_tuple_getitem _ _)))
  show wpAny _ _ (Builtin.Tuple.tupleItemsOf (.ref t) >>= _) _ _ s
  refine wpAny_bind (tupleItemsOf_ ht ?_)
  refine wpAny_bind (wpAny_typeOf hTs ?_)
  rw [if_pos (by decide)]
  refine wpAny_bind (rev_applied hs pl pu ps ?_)
  show wpAny _ _ (if (((items.size : Int) - 1) == 0 && (-1 : Int) == 1 && items.size == items.size) = true then _ else _) _ _ s
  rw [if_neg (by rw [show ((-1 : Int) == 1) = false by decide, Bool.and_false, Bool.false_and]; exact Bool.false_ne_true), rev_pick]
  first
    | exact wpAny_bind (m := Builtin.Tuple.tupleExact _) (wpAny_newObj_type (wpAny_pure ⟨_, rfl, wpAny_pure h⟩) htake)
    | exact wpAny_bind (m := Builtin.Tuple.tupleExact _) (wpAny_newObj_type (wpAny_bind (wpAny_pure (wpAny_pure ⟨_, rfl, wpAny_pure h⟩))) htake)
    | exact wpAny_bind (wpAny_bind (m := Builtin.Tuple.tupleExact _) (wpAny_newObj_type (wpAny_pure (wpAny_pure ⟨_, rfl, wpAny_pure h⟩)) htake))
    | exact wpAny_bind (wpAny_bind (m := Builtin.Tuple.tupleExact _) (wpAny_newObj_type (wpAny_pure ⟨_, rfl, wpAny_pure h⟩) htake))
end
end HT
namespace Den
open PySem PySem.Spec PyProof.Rows L2
section
variable {X : Cx}
def tRevT (K : PySem.W.Frag) (te : TE) : TE := fun σ H Q => te σ H fun x H1 => (∃ a xs, x = .ref a ∧ SqL K H1 a xs ∧ ∀ p, H1 p = none → Q (.ref p) (upd H1 p (.lst xs.reverse))) ∨
  (∃ a xs, x = .ref a ∧ SqT K H1 a xs ∧ ∀ p, H1 p = none → Q (.ref p) (upd H1 p (.tup xs.reverse)))
theorem pe_rev {e : Expr} {te : TE} {k : Nat} {p1 p2 p3 pos : Pos} (he : PE X e te) : PE X (.Subscript e (.Slice none none (some (.UnaryOp .USub (.Constant (.int 1) k p1) p2)) p3) pos) (tRevT X.K te) := by
  refine ⟨fun pins s σ H Q I h => ?_⟩
  refine Subscript_ (thn (he.run pins s σ H _ I h) fun v s1 ⟨x, H1, I1, r1, q1⟩ => ?_)
  have hst : PO X (some (.UnaryOp .USub (.Constant (.int 1) k p1) p2)) (tPart (tUn (rU fun i => .int (-i)) (tC (.int 1)))) := po_some (pe_un un_neg pe_int)
  refine wpAny_Slice (thn (po_none.run pins s1 σ H1 (fun o H2 => o = none ∧ H2 = H1) I1 ⟨rfl, rfl⟩) fun vl s2 ⟨l, H2, I2, pl, el, e2⟩ => ?_)
  subst el e2
  refine thn (po_none.run pins s2 σ H2 (fun o H3 => o = none ∧ H3 = H2) I2 ⟨rfl, rfl⟩) fun vu s3 ⟨u, H3, I3, pu, eu, e3⟩ => ?_
  subst eu e3
  refine thn (hst.run pins s3 σ H3 (fun o H4 => o = some (-1) ∧ H4 = H3) I3 ⟨1, rfl, -1, rfl, rfl, rfl⟩) fun vs s4 ⟨o, H4, I4, ps, eo, e4⟩ => ?_
  subst eo e4
  have I5 : Inv X pins σ H4 { s4 with heap := s4.heap.push { cls := .type "slice", data := .fields #[vl, vu, vs] } } := I4.kept (t' := s4.toks) fun b ob q => Heap.get?_push_of_some _ q
  rcases q1 with q1 | q1
  · obtain ⟨a, xs, ex, hx, q⟩ := q1
    subst ex
    cases r1
    obtain ⟨its, r, ht, hz⟩ := I5.list hx
    have hlen := r.length
    show wpAny (model X.prog X.w) X.A (subscriptTail e (.Slice none none (some (.UnaryOp .USub (.Constant (.int 1) k p1) p2)) p3) (.ref a) (.ref s4.heap.objs.size)) (EP X pins σ Q) X.xe { s4 with heap := s4.heap.push { cls := .type "slice", data := .fields #[vl, vu, vs] } }
    refine tail_any (ops := [.ref a, .ref s4.heap.objs.size]) ht.isList.typeIs (PySem.slot_list_getitem.lookup) ?_ (by with_unfolding_all rfl)
    refine wpAny_getItem_list_slice ht.isList (Heap.IsSliceOf.new _ vl vu vs) pl pu ps (by decide) ?_ (by rw [List.size_toArray]; omega)
    rw [PySem.W.krv_pick]
    refine ⟨.ref _, _, I5.laid (t' := s4.toks) (o := .lst xs.reverse) (fun b ob q => Heap.get?_push_of_some _ q) (Nat.le_refl _) ?_, rfl, q _ (I5.hok.fresh (Nat.le_refl _))⟩
    exact ⟨by rw [List.length_reverse]; exact hz, _, 0, r.reverse, Heap.get?_push_size _ rfl⟩
  · obtain ⟨a, xs, ex, hx, q⟩ := q1
    subst ex
    cases r1
    obtain ⟨its, r, ht, hz⟩ := I5.tuple hx
    have hlen := r.length
    show wpAny (model X.prog X.w) X.A (subscriptTail e (.Slice none none (some (.UnaryOp .USub (.Constant (.int 1) k p1) p2)) p3) (.ref a) (.ref s4.heap.objs.size)) (EP X pins σ Q) X.xe { s4 with heap := s4.heap.push { cls := .type "slice", data := .fields #[vl, vu, vs] } }
    refine tail_any (ops := [.ref a, .ref s4.heap.objs.size]) ht.typeIs (PyProof.Rows.slot_tuple_getitem.lookup) ?_ (by with_unfolding_all rfl)
    refine HT.getItem_tuple_rev ht (Heap.IsSliceOf.new _ vl vu vs) pl pu ps ?_ (by rw [List.size_toArray]; omega)
    refine ⟨.ref _, _, I5.laid (t' := s4.toks) (o := .tup xs.reverse) (fun b ob q => Heap.get?_push_of_some _ q) (Nat.le_refl _) ?_, rfl, q _ (I5.hok.fresh (Nat.le_refl _))⟩
    exact ⟨by rw [List.length_reverse]; exact hz, its.reverse, r.reverse, ⟨_, Heap.get?_push_size _ rfl, rfl, 0, by simp⟩⟩
variable {cal : Nat → List (Bool × D) → Option (Bool × D)} {a : Expr} {ea : E} {k : Nat} {p1 p2 p3 pos : Pos}
theorem Reps.rev {K : PySem.W.Frag} {H : Hp} {b : Bool} : ∀ {vs : List V} {ds : List D} {f : List Addr}, Reps K H b vs ds f → Den.fzs ds = true → ∀ b', Reps K H b' vs.reverse ds.reverse []
  | _, _, _, .nil, _, _ => .nil
  | _, _, _, .cons (v := v) (vs := vs) (d := d) (ds := ds) r rs, e, b' => by
    have e' := Bool.and_eq_true_iff.mp (show (Den.fz _ && Den.fzs _) = true from e)
    have h1 := Reps.rev rs e'.2 b'
    have h2 := (r.fz e'.1).2 b'
    rw [List.reverse_cons, List.reverse_cons]
    exact h1.append (Reps.one h2)
theorem Q_rev (ha : QE X a (ev cal ea false)) : QE X (.Subscript a (.Slice none none (some (.UnaryOp .USub (.Constant (.int 1) k p1) p2)) p3) pos) (ev cal (.rev ea) false) := by
  refine pe_imp (pe_rev ha) fun σ H Q ⟨ρ, φ, bb, d, R, e, q⟩ => ?_
  simp only [ev, fin, Bool.false_eq_true, if_false] at e
  split at e
  · cases e
  rename_i b0 d0 e1
  refine ⟨ρ, φ, b0, d0, R, e1, fun v H1 g G => ?_⟩
  cases d0 with
  | list xs =>
    simp only [revD] at e
    split at e
    · rename_i hz
      simp only [Option.some.injEq, Prod.mk.injEq] at e
      obtain ⟨rfl, rfl⟩ := e
      obtain ⟨l, ws, fs, rfl, hl, rs, rfl⟩ := G.rep.l
      exact .inl ⟨l, ws, rfl, .inl hl.rd, fun p hp => q _ _ [p] ⟨G.same.trans (same_new hp), .lst (b := true) upd_same ((rs.rev hz true).same (same_new hp)), fun _ => ⟨by simp, fun a m => by rw [List.mem_singleton.mp m]; exact G.same.free hp⟩, fun a m => .inl (by rw [List.mem_singleton.mp m]; exact G.same.free hp)⟩⟩
    · cases e
  | tuple xs =>
    simp only [revD] at e
    split at e
    · rename_i hz
      simp only [Option.some.injEq, Prod.mk.injEq] at e
      obtain ⟨rfl, rfl⟩ := e
      obtain ⟨l, ws, rfl, hl, rs⟩ := G.rep.t
      exact .inr ⟨l, ws, rfl, SqT.of hl, fun p hp => q _ _ [] (Got.scalar (G.same.trans (same_new hp)) (.tup upd_same ((rs.rev hz _).same (same_new hp))))⟩
    · cases e
  | _ => simp [revD] at e
end
end Den

set_option Elab.async false
set_option linter.all false
set_option maxRecDepth 100000
/-! DenH: targets, walks. -/
namespace Den
open PySem PySem.Spec PyProof.Rows L2 RZ

def Own (ρ : Ev) (φ : List (List Addr)) (a : Addr) : Prop := ∃ (i : Nat) (d : D) (f : List Addr), ρ[i]? = some (some (true, d)) ∧ φ[i]? = some f ∧ a ∈ f
def Okk (ρ : Ev) (φ : List (List Addr)) : Prop := ∀ (i : Nat) d f, ρ[i]? = some (some (true, d)) → φ[i]? = some f → f.Nodup ∧ ∀ (j : Nat) h, j ≠ i → φ[j]? = some h → ∀ a ∈ f, a ∉ h
theorem Okk.of {ps : List (Bool × D)} {gs : List (List Addr)} (h : DjA ps gs) : Okk (ps.map some) gs := fun i d f e1 e2 => by
  rw [List.getElem?_map] at e1
  cases hh : ps[i]? with
  | none => rw [hh] at e1; cases e1
  | some p =>
    rw [hh] at e1
    simp only [Option.map_some, Option.some.injEq] at e1
    subst e1
    exact h i d f hh e2
/-- a store of an item: what stands behind it -/
structure SetR (K : PySem.W.Frag) (H : Hp) (vs : List Nat) (b : Bool) (g : List Addr) (σ : L2.St) (ρ : Ev) (φ : List (List Addr)) (σ' : L2.St) (ρ' : Ev) (φ' : List (List Addr)) : Prop where
  env : EnvR K H σ' ρ' φ'
  all : ∀ f ∈ φ', ∀ a ∈ f, (∃ f0 ∈ φ, a ∈ f0) ∨ a ∈ g
  own : ∀ a, Own ρ' φ' a → Own ρ φ a ∨ (b = true ∧ a ∈ g)
  okk : Okk ρ φ → (b = true → g.Nodup ∧ ∀ a ∈ g, ∀ f ∈ φ, a ∉ f) → (b = false → ∀ a ∈ g, ¬ Own ρ φ a) → Okk ρ' φ'
  out : wipe σ' vs = wipe σ vs
  len : ρ'.length = ρ.length

theorem wipe_get {σ : L2.St} {i : Nat} : ∀ vs : List Nat, (wipe σ vs)[i]? = if i ∈ vs ∧ i < σ.length then some none else σ[i]?
  | [] => by simp [wipe]
  | v :: vs => by
    rw [wipe, List.getElem?_set, wipe_get vs, wipe_length]
    by_cases hv : v = i
    · subst hv
      by_cases hl : v < σ.length
      · simp [hl]
      · simp [hl, List.getElem?_eq_none (Nat.le_of_not_lt hl)]
    · have : i ≠ v := fun e => hv e.symm
      simp [hv, this]
theorem wipe_set {σ : L2.St} {i : Nat} {x : Option V} {vs : List Nat} (h : i ∈ vs) : wipe (σ.set i x) vs = wipe σ vs := by
  apply List.ext_getElem?
  intro j
  rw [wipe_get, wipe_get, List.length_set]
  by_cases hj : i = j
  · subst hj
    by_cases hl : i < σ.length
    · simp [h, hl]
    · simp [hl, List.getElem?_set, List.getElem?_eq_none (Nat.le_of_not_lt hl)]
  · simp [List.getElem?_set_ne hj]

mutual
def namesT : T → List Nat
  | .n i => [i]
  | .t ts => namesTs ts
def namesTs : Ts → List Nat
  | .nil => []
  | .cons t r => namesT t ++ namesTs r
end
def lenTs : Ts → Nat
  | .nil => 0
  | .cons _ r => lenTs r + 1

section
variable {K : PySem.W.Frag} {H : Hp}
/-- one name -/
theorem SetR.name {σ : L2.St} {ρ ρ' : Ev} {φ : List (List Addr)} {b : Bool} {v : V} {d : D} {g : List Addr} {i : Nat} {vs : List Nat} (R : EnvR K H σ ρ φ) (r : Rep K H b v d g) (e : setT (.n i) b d ρ = some ρ') (hv : i ∈ vs) : ∃ φ', SetR K H vs b g σ ρ φ (σ.set i (some v)) ρ' φ' := by
  simp only [setT] at e
  split at e
  · rename_i hi
    cases e
    have mem : ∀ {f : List Addr}, (∀ a ∈ f, a ∈ g) → ∀ k ∈ φ.set i f, ∀ a ∈ k, (∃ f0 ∈ φ, a ∈ f0) ∨ a ∈ g := fun {f} hf k hk a m => by
      rcases List.mem_or_eq_of_mem_set hk with z | z
      · exact .inl ⟨k, z, m⟩
      · subst z; exact .inr (hf a m)
    have fin : ∀ (b' : Bool) (f : List Addr), Rep K H b' v d f → (∀ a ∈ f, a ∈ g) → (b' = true → f = [] ∨ (b = true ∧ f = g)) → (b = false → f = [] ∨ b' = false) → SetR K H vs b g σ ρ φ (σ.set i (some v)) (ρ.set i (some (b', d))) (φ.set i f) := fun b' f rf hf hb hb2 => by
      refine ⟨R.set i rf, mem hf, fun a ⟨j, d', k, e1, e2, m⟩ => ?_, fun ok h1 h2 j d' k e1 e2 => ?_, wipe_set hv, by simp⟩
      · by_cases hj : i = j
        · subst hj
          rw [List.getElem?_set_self hi] at e1
          rw [List.getElem?_set_self (by rw [R.l2]; exact hi)] at e2
          simp only [Option.some.injEq, Prod.mk.injEq] at e1 e2
          subst e2
          rcases hb e1.1 with z | ⟨z, z2⟩
          · rw [z] at m; cases m
          · exact .inr ⟨z, hf a m⟩
        · rw [List.getElem?_set_ne hj] at e1 e2
          exact .inl ⟨j, d', k, e1, e2, m⟩
      · by_cases hj : i = j
        · subst hj
          rw [List.getElem?_set_self hi] at e1
          rw [List.getElem?_set_self (by rw [R.l2]; exact hi)] at e2
          simp only [Option.some.injEq, Prod.mk.injEq] at e1 e2
          subst e2
          rcases hb e1.1 with z | ⟨z, z2⟩
          · subst z; exact ⟨List.nodup_nil, fun _ _ _ _ a m => nomatch m⟩
          · subst z2
            refine ⟨(h1 z).1, fun j' k' hj' e3 a m => ?_⟩
            rw [List.getElem?_set_ne (fun z => hj' z.symm)] at e3
            exact (h1 z).2 a m k' (List.mem_of_getElem? e3)
        · rw [List.getElem?_set_ne hj] at e1 e2
          obtain ⟨q1, q2⟩ := ok j d' k e1 e2
          refine ⟨q1, fun j' k' hj' e3 a m mk => ?_⟩
          by_cases hj2 : i = j'
          · subst hj2
            rw [List.getElem?_set_self (by rw [R.l2]; exact hi)] at e3
            simp only [Option.some.injEq] at e3
            subst e3
            cases hb0 : b with
            | true => exact (h1 hb0).2 a (hf a mk) k (List.mem_of_getElem? e2) m
            | false => exact h2 hb0 a (hf a mk) ⟨j, d', k, e1, e2, m⟩
          · rw [List.getElem?_set_ne hj2] at e3
            exact q2 j' k' hj' e3 a m mk
    cases hz : fz d with
    | true =>
      rw [Bool.or_true]
      exact ⟨φ.set i [], fin true [] ((r.fz hz).2 true) (fun a m => nomatch m) (fun _ => .inl rfl) fun _ => .inl rfl⟩
    | false =>
      rw [Bool.or_false]
      exact ⟨φ.set i g, fin b g r (fun a m => m) (fun z => .inr ⟨z, rfl⟩) fun z => .inr z⟩
  · cases e
theorem SetR.refl {σ : L2.St} {ρ : Ev} {φ : List (List Addr)} {b : Bool} {g : List Addr} {vs : List Nat} (R : EnvR K H σ ρ φ) : SetR K H vs b g σ ρ φ σ ρ φ :=
  ⟨R, fun f hf a m => .inl ⟨f, hf, m⟩, fun a h => .inl h, fun ok _ _ => ok, rfl, rfl⟩
theorem SetR.trans {σ σ1 σ2 : L2.St} {ρ ρ1 ρ2 : Ev} {φ φ1 φ2 : List (List Addr)} {b : Bool} {g1 g2 : List Addr} {vs : List Nat} (h1 : SetR K H vs b g1 σ ρ φ σ1 ρ1 φ1) (h2 : SetR K H vs b g2 σ1 ρ1 φ1 σ2 ρ2 φ2) : SetR K H vs b (g1 ++ g2) σ ρ φ σ2 ρ2 φ2 := by
  refine ⟨h2.env, fun f hf a m => ?_, fun a h => ?_, fun ok q1 q2 => ?_, h2.out.trans h1.out, h2.len.trans h1.len⟩
  · rcases h2.all f hf a m with ⟨f0, z1, z2⟩ | z
    · exact (h1.all f0 z1 a z2).imp id (List.mem_append_left _)
    · exact .inr (List.mem_append_right _ z)
  · rcases h2.own a h with z | ⟨z, z2⟩
    · exact (h1.own a z).imp id fun ⟨w1, w2⟩ => ⟨w1, List.mem_append_left _ w2⟩
    · exact .inr ⟨z, List.mem_append_right _ z2⟩
  · refine h2.okk (h1.okk ok (fun z => ?_) fun z a m => q2 z a (List.mem_append_left _ m)) (fun z => ?_) fun z a m o => ?_
    · exact ⟨(List.nodup_append.mp (q1 z).1).1, fun a m => (q1 z).2 a (List.mem_append_left _ m)⟩
    · obtain ⟨n1, n2, n3⟩ := List.nodup_append.mp (q1 z).1
      refine ⟨n2, fun a m f hf mf => ?_⟩
      rcases h1.all f hf a mf with ⟨f0, z1, z2⟩ | w
      · exact (q1 z).2 a (List.mem_append_right _ m) f0 z1 z2
      · exact n3 a w a m rfl
    · rcases h1.own a o with w | ⟨w, _⟩
      · exact q2 z a (List.mem_append_right _ m) w
      · rw [w] at z; cases z
end

/-- a target: what it stores -/
def tG (K : PySem.W.Frag) (vs : List Nat) (t : T) : TG := fun v σ H Q => ∃ ρ φ b d g ρ', EnvR K H σ ρ φ ∧ Rep K H b v d g ∧ setT t b d ρ = some ρ' ∧ ∀ σ' φ', SetR K H vs b g σ ρ φ σ' ρ' φ' → Q σ' H
def tGs (K : PySem.W.Frag) (vs : List Nat) (t : Ts) : TGs := fun us σ H Q => ∃ ρ φ b ds g ρ', EnvR K H σ ρ φ ∧ Reps K H b us ds g ∧ setTs t b ds ρ = some ρ' ∧ ∀ σ' φ', SetR K H vs b g σ ρ φ σ' ρ' φ' → Q σ' H
def QG (X : Cx) (e : Expr) (vs : List Nat) (t : T) : Prop := PG X e (tG X.K vs t)
def QGs (X : Cx) (es : List Expr) (vs : List Nat) (t : Ts) : Prop := PGs X es (tGs X.K vs t)
theorem pg_imp {X : Cx} {e : Expr} {t t' : TG} (h : PG X e t) (w : ∀ v σ H Q, t' v σ H Q → t v σ H Q) : PG X e t' := ⟨fun pins s σ H v u Q I r q => h.run pins s σ H v u Q I r (w v σ H Q q)⟩
theorem pgs_imp {X : Cx} {es : List Expr} {t t' : TGs} (h : PGs X es t) (w : ∀ v σ H Q, t' v σ H Q → t v σ H Q) : PGs X es t' := ⟨fun pins s σ H v u Q I r q => h.run pins s σ H v u Q I r (w v σ H Q q)⟩
section
variable {X : Cx} {pos : Pos} {e : Expr} {es : List Expr}
theorem QG_n {i : Nat} {x : Str} {vs : List Nat} (h : PG X (.Name x pos) (gName i)) (hv : i ∈ vs) : QG X (.Name x pos) vs (.n i) := by
  refine pg_imp h fun v σ H Q ⟨ρ, φ, b, d, g, ρ', R, r, e, q⟩ => ?_
  obtain ⟨φ', s⟩ := SetR.name R r e hv
  exact q _ φ' s
theorem QGs_nil {vs : List Nat} : QGs X [] vs .nil := by
  refine pgs_imp pgs_nil fun us σ H Q ⟨ρ, φ, b, ds, g, ρ', R, r, e, q⟩ => ?_
  cases ds with
  | nil =>
    simp only [setTs, Option.some.injEq] at e
    subst e
    obtain ⟨rfl, rfl⟩ := r.none_of
    exact ⟨rfl, q σ φ (SetR.refl R)⟩
  | cons d ds => simp [setTs] at e
theorem QGs_cons {vs : List Nat} {t : T} {ts : Ts} (h1 : QG X e vs t) (h2 : QGs X es vs ts) (hs : (assignEach (e :: es) X.env).map (·.2) = assign e X.env :: (assignEach es X.env).map (·.2)) : QGs X (e :: es) vs (.cons t ts) := by
  refine pgs_imp (pgs_cons h1 h2 hs) fun us σ H Q ⟨ρ, φ, b, ds, g, ρ', R, r, e, q⟩ => ?_
  cases ds with
  | nil => simp [setTs] at e
  | cons d ds =>
    simp only [setTs] at e
    split at e
    · cases e
    rename_i ρ1 e1
    cases r with
    | @cons v vs' _ _ f fs r rs =>
      exact ⟨v, vs', rfl, ρ, φ, b, d, f, ρ1, R, r, e1, fun σ1 φ1 s1 => ⟨ρ1, φ1, b, ds, fs, ρ', s1.env, rs, e, fun σ2 φ2 s2 => q σ2 φ2 (s1.trans s2)⟩⟩
theorem setTs_len : ∀ {ts : Ts} {b : Bool} {ds : List D} {ρ ρ' : Ev}, setTs ts b ds ρ = some ρ' → ds.length = lenTs ts
  | .nil, _, [], _, _, _ => rfl
  | .nil, _, _ :: _, _, _, e => by simp [setTs] at e
  | .cons _ _, _, [], _, _, e => by simp [setTs] at e
  | .cons t r, b, d :: ds, ρ, ρ', e => by
    simp only [setTs] at e
    split at e
    · cases e
    · exact congrArg (· + 1) (setTs_len e)
theorem QG_t {vs : List Nat} {ts : Ts} {k : Nat} (hc : X.calm = true) (h : QGs X es vs ts) (hn : (assignEach es X.env).length = lenTs ts) (hst : (assignEach es X.env).findIdx? (·.1) = none) : QG X (.Tuple es k pos) vs (.t ts) := by
  refine pg_imp (pg_tup hc h hn hst) fun v σ H Q ⟨ρ, φ, b, d, g, ρ', R, r, e, q⟩ => ?_
  cases d with
  | tuple ds =>
    obtain ⟨a, us, rfl, ha, ra⟩ := r.t
    have e' : setTs ts b ds ρ = some ρ' := e
    exact ⟨a, us, rfl, SqT.of ha, by rw [ra.length]; exact setTs_len e', ρ, φ, b, ds, g, ρ', R, ra, e', q⟩
  | _ => exact nomatch e
end

/-! ### walks -/
structure Stand (g : List Addr) (H H' : Hp) : Prop where
  tup : ∀ a xs, H a = some (.tup xs) → H' a = some (.tup xs)
  frz : ∀ a o xs, H a = some (.frz o (lt xs)) → H' a = some (.frz o (lt xs))
  at_ : ∀ a ∈ g, ∀ o, H a = some o → KeptAs o (H' a)
  tb : ∀ P, GxR.TabG H P → GxR.TabG H' P
theorem _root_.Den.Same.tab {H H' : Hp} (s : Same H H') : ∀ P, GxR.TabG H P → GxR.TabG H' P := fun P ⟨ps, e, ok⟩ => by
  obtain ⟨qs, e2, ok2⟩ := s P _ e
  exact ⟨qs, e2, ok2 ok⟩
theorem Stand.refl {g : List Addr} {H : Hp} : Stand g H H := ⟨fun _ _ h => h, fun _ _ _ h => h, fun _ _ _ h => .of h, fun _ h => h⟩
theorem Stand.same {g : List Addr} {H H' : Hp} (s : Same H H') : Stand g H H' := ⟨fun _ _ h => s _ _ h, fun _ _ _ h => s _ _ h, fun _ _ _ h => s _ _ h, s.tab⟩
theorem Stand.trans {g : List Addr} {H H1 H2 : Hp} (a : Stand g H H1) (b : Stand g H1 H2) : Stand g H H2 :=
  ⟨fun x xs h => b.tup _ _ (a.tup _ _ h), fun x o xs h => b.frz _ _ _ (a.frz _ _ _ h), fun x m o h => (a.at_ _ m _ h).trans fun o' h' => b.at_ _ m _ h', fun P h => b.tb P (a.tb P h)⟩
theorem Rep.stand {K : PySem.W.Frag} {H H' : Hp} {b : Bool} {v : V} {d : D} {f g : List Addr} (r : Rep K H b v d f) (s : Stand g H H') (h : ∀ a ∈ f, a ∈ g) : Rep K H' b v d f := r.keep s.tup s.frz fun a m => s.at_ a (h a m)
theorem Reps.stand {K : PySem.W.Frag} {H H' : Hp} {b : Bool} {v : List V} {d : List D} {f g : List Addr} (r : Reps K H b v d f) (s : Stand g H H') (h : ∀ a ∈ f, a ∈ g) : Reps K H' b v d f := r.keep s.tup s.frz fun a m => s.at_ a (h a m)
/-- what is walked: these items, while what holds them stands -/
def Wk (K : PySem.W.Frag) (J : It) (H1 : Hp) (ds : List D) (g : List Addr) : Prop := ∀ (i : Nat) (H' : Hp), Stand g H1 H' → (i = ds.length → J.stop i H') ∧
  ∀ d, ds[i]? = some d → J.go i H' ∧ ∀ x H'', J.yld i H' x H'' → ∃ g', Same H' H'' ∧ Rep K H'' false x d g' ∧ ∀ a ∈ g', a ∈ g
def tI (K : PySem.W.Frag) (f : Ev → Option (Bool × List D)) : TI := fun σ H R => ∃ ρ φ b ds, EnvR K H σ ρ φ ∧ f ρ = some (b, ds) ∧
  ∀ J H1 g, Same H H1 → Wk K J H1 ds g → (b = true → ∀ a ∈ g, H a = none) → (∀ a ∈ g, H a = none ∨ ∃ f ∈ φ, a ∈ f) → (∀ a ∈ g, H1 a ≠ none) → R J H1
/-- .. under a premise of the slots and the heap -/
def tIP (K : PySem.W.Frag) (f : Ev → Option (Bool × List D)) (P : L2.St → Hp → Prop) : TI := fun σ H R => ∃ ρ φ b ds, EnvR K H σ ρ φ ∧ f ρ = some (b, ds) ∧ P σ H ∧
  ∀ J H1 g, Same H H1 → Wk K J H1 ds g → (b = true → ∀ a ∈ g, H a = none) → (∀ a ∈ g, H a = none ∨ ∃ f ∈ φ, a ∈ f) → (∀ a ∈ g, H1 a ≠ none) → R J H1
/-- .. and whose names' things these are -/
def AlS (o : Option (List Nat)) (H : Hp) (φ : List (List Addr)) (g : List Addr) : Prop := ∀ is, o = some is → ∀ a ∈ g, H a = none ∨ ∃ i ∈ is, ∃ f, φ[i]? = some f ∧ a ∈ f
def tQx (K : PySem.W.Frag) (f : Ev → Option (Bool × D)) (o : Option (List Nat)) : TE := fun σ H Q => ∃ ρ φ b d, EnvR K H σ ρ φ ∧ f ρ = some (b, d) ∧ ∀ v H' g, Got K H H' φ b v d g → AlS o H φ g → Q v H'
def tIx (K : PySem.W.Frag) (f : Ev → Option (Bool × List D)) (o : Option (List Nat)) : TI := fun σ H R => ∃ ρ φ b ds, EnvR K H σ ρ φ ∧ f ρ = some (b, ds) ∧
  ∀ J H1 g, Same H H1 → Wk K J H1 ds g → (b = true → ∀ a ∈ g, H a = none) → (∀ a ∈ g, H a = none ∨ ∃ f ∈ φ, a ∈ f) → (∀ a ∈ g, H1 a ≠ none) → AlS o H φ g → R J H1
def QEx (X : Cx) (e : Expr) (f : Ev → Option (Bool × D)) (o : Option (List Nat)) : Prop := PE X e (tQx X.K f o)
def QIx (X : Cx) (tg e : Expr) (f : Ev → Option (Bool × List D)) (o : Option (List Nat)) : Prop := PI X tg e (tIx X.K f o)
def QI (X : Cx) (tg e : Expr) (f : Ev → Option (Bool × List D)) : Prop := PI X tg e (tI X.K f)
theorem pi_imp {X : Cx} {tg e : Expr} {t t' : TI} (h : PI X tg e t) (w : ∀ σ H R, t' σ H R → t σ H R) : PI X tg e t' := ⟨fun pins s σ H R I q => h.run pins s σ H R I (w σ H R q)⟩
theorem QEx_of {X : Cx} {e : Expr} {f : Ev → Option (Bool × D)} (h : QE X e f) : QEx X e f none := pe_imp h fun σ H Q ⟨ρ, φ, b, d, R, e, q⟩ => ⟨ρ, φ, b, d, R, e, fun v H' g G => q v H' g G fun is z => nomatch z⟩
theorem QI_of {X : Cx} {tg e : Expr} {f : Ev → Option (Bool × List D)} {o : Option (List Nat)} (h : QIx X tg e f o) : QI X tg e f := pi_imp h fun σ H R ⟨ρ, φ, b, ds, Rr, e, q⟩ => ⟨ρ, φ, b, ds, Rr, e, fun J H1 g s w fr al tr _ => q J H1 g s w fr al tr⟩
theorem QEx_v {X : Cx} {cal : Nat → List (Bool × D) → Option (Bool × D)} {i : Nat} {e0 : Expr} (h : PE X e0 (tVar i)) : QEx X e0 (ev cal (.v i) false) (vns (.v i)) := by
  refine pe_imp h fun σ H Q ⟨ρ, φ, b, d, R, e, q⟩ => ?_
  simp only [ev, fin, Bool.false_eq_true, if_false, getD?] at e
  split at e
  · rename_i p hp
    obtain ⟨b', d'⟩ := p
    simp only [Option.map_some, Option.some.injEq, Prod.mk.injEq] at e
    obtain ⟨rfl, rfl⟩ := e
    obtain ⟨v, f, h1, h2, h3⟩ := R.at_ _ _ _ hp
    by_cases hz : fz d' = true
    · refine ⟨v, h1, q v H [] ?_ fun is z a m => nomatch m⟩
      rw [hz]; exact Got.froz hz (Same.refl _) h3
    · have hz' : fz d' = false := by simpa using hz
      rw [hz'] at q
      refine ⟨v, h1, q v H f ⟨Same.refl _, h3.sh, (fun z => nomatch z), fun a m => .inr ⟨f, List.mem_of_getElem? h2, m⟩⟩ fun is z a m => ?_⟩
      cases z
      exact .inr ⟨i, List.mem_singleton_self _, f, h2, m⟩
  · simp at e
section
variable {X : Cx} {cal : Nat → List (Bool × D) → Option (Bool × D)} {tg e a b : Expr} {ea eb : E} {pos p : Pos}
def iAny (K : PySem.W.Frag) (tl : TE) : TI := fun σ H R => tl σ H fun x H1 => (∃ c, x = .ref c ∧ (∃ xs, SqL K H1 c xs) ∧ R (Itl K c) H1) ∨ (∃ c, x = .ref c ∧ (∃ xs, SqT K H1 c xs) ∧ R (Itt K c) H1) ∨ ∃ z, x = .str z ∧ R (Its z) H1
theorem pi_any {te : TE} (he : PE X e te) : PI X tg e (iAny X.K te) := by
  refine ⟨fun pins s σ H R I h => thn (he.run pins s σ H _ I h) fun v s1 ⟨x, H1, I1, r1, q1⟩ => ?_⟩
  rcases q1 with ⟨c, rfl, ⟨xs, hq⟩, q⟩ | ⟨c, rfl, ⟨xs, hq⟩, q⟩ | ⟨z, rfl, q⟩
  · cases r1
    obtain ⟨_, _, w1, _⟩ := I1.list hq
    exact wpAny_pyIter_list w1.isList (pi_one (tk := s1.toks) I1 _ (turn_list c _) ⟨_, Heap.get?_push_size _ rfl, rfl, rfl⟩ q)
  · cases r1
    obtain ⟨ys, _, w1, _⟩ := I1.tuple hq
    exact wpAny_pyIter_tuple (show s1.heap.IsTuple c ys.toArray from w1) (pi_one (tk := s1.toks) I1 _ (turn_tuple c _) ⟨_, Heap.get?_push_size _ rfl, rfl, rfl⟩ q)
  · obtain ⟨t, rfl⟩ := r1
    cases ha : z.cps.all (· < 128) with
    | false => exact wpAny_pyIter_wide ha (pi_one (tk := s1.toks) I1 _ (turn_str _ z t _ (.inr rfl)) ⟨_, Heap.get?_push_size _ rfl, rfl, rfl⟩ q)
    | true => exact wpAny_pyIter_ascii ha (pi_one (tk := s1.toks) I1 _ (turn_str _ z t _ (.inl rfl)) ⟨_, Heap.get?_push_size _ rfl, rfl, rfl⟩ q)
theorem wk_lst {K : PySem.W.Frag} {H : Hp} {p : Bool} {c : Addr} {us : List V} {xs : List D} {fs : List Addr} (ha : LstAt H p c us) (ra : Reps K H p us xs fs) : Wk K (Itl K c) H xs (c :: fs) := by
  intro i H' s
  have r' := ra.stand s fun a m => List.mem_cons_of_mem _ m
  have h' : LstAt H' p c us := ha.keep (s.at_ c List.mem_cons_self)
  refine ⟨fun hl => ⟨us, .inl h'.rd, by rw [ra.length]; exact Nat.le_of_eq hl.symm⟩, fun d hd => ?_⟩
  obtain ⟨v, g, h1, h2, h3⟩ := r'.get hd
  refine ⟨⟨us, v, .inl h'.rd, h1⟩, fun x H'' ⟨e1, e2⟩ => ?_⟩
  have := e2 us (.inl h'.rd)
  rw [h1] at this
  cases this
  subst e1
  exact ⟨g, Same.refl _, h2.sh, fun a m => List.mem_cons_of_mem _ (h3 a m)⟩
theorem wk_tup {K : PySem.W.Frag} {H : Hp} {p : Bool} {c : Addr} {us : List V} {xs : List D} {fs : List Addr} (ha : H c = some (.tup us)) (ra : Reps K H p us xs fs) : Wk K (Itt K c) H xs fs := by
  intro i H' s
  have r' := ra.stand s fun a m => m
  have h' : H' c = some (.tup us) := s.tup c us ha
  refine ⟨fun hl => ⟨us, SqT.of h', by rw [ra.length]; exact Nat.le_of_eq hl.symm⟩, fun d hd => ?_⟩
  obtain ⟨v, g, h1, h2, h3⟩ := r'.get hd
  refine ⟨⟨us, v, SqT.of h', h1⟩, fun x H'' ⟨e1, e2⟩ => ?_⟩
  have := e2 us (SqT.of h')
  rw [h1] at this
  cases this
  subst e1
  exact ⟨g, Same.refl _, h2.sh, h3⟩
theorem wk_str {K : PySem.W.Frag} {H : Hp} (z : Str) : Wk K (Its z) H (z.cps.toList.map fun c => .str ⟨#[c]⟩) [] := by
  intro i H' s
  rw [List.length_map, Array.length_toList]
  refine ⟨fun hl => Nat.le_of_eq hl.symm, fun d hd => ?_⟩
  rw [List.getElem?_map] at hd
  obtain ⟨c, hc, rfl⟩ := Option.map_eq_some_iff.mp hd
  have hc' : z.cps[i]? = some c := by simpa using hc
  refine ⟨(Array.getElem?_eq_some_iff.mp hc').1, fun x H'' ⟨e1, c', e2, e3⟩ => ?_⟩
  rw [hc'] at e2
  cases e2
  subst e1 e3
  exact ⟨[], Same.refl _, .str _, fun a m => nomatch m⟩
theorem QI_e {o : Option (List Nat)} (he : QEx X e (ev cal ea false) o) : QIx X tg e (evi cal (.e ea)) o := by
  refine pi_imp (pi_any he) fun σ H R ⟨ρ, φ, b, ds, Rr, e, q⟩ => ?_
  simp only [evi] at e
  split at e
  · cases e
  rename_i b1 x e1
  obtain ⟨xs, e2, e3⟩ := Option.map_eq_some_iff.mp e
  simp only [Prod.mk.injEq] at e3
  obtain ⟨rfl, rfl⟩ := e3
  refine ⟨ρ, φ, b1, x, Rr, e1, fun v H1 g G As => ?_⟩
  cases x with
  | list ys =>
    cases e2
    obtain ⟨c, us, fs, rfl, ha, ra, rfl⟩ := G.rep.l
    exact .inl ⟨c, rfl, ⟨us, .inl ha.rd⟩, q _ H1 (c :: fs) G.same (wk_lst ha ra) (fun z => (G.fr z).2) G.al G.rep.trk As⟩
  | tuple ys =>
    cases e2
    obtain ⟨c, us, rfl, ha, ra⟩ := G.rep.t
    exact .inr (.inl ⟨c, rfl, ⟨us, SqT.of ha⟩, q _ H1 g G.same (wk_tup ha ra) (fun z => (G.fr z).2) G.al G.rep.trk As⟩)
  | str z =>
    cases e2
    obtain ⟨rfl, rfl⟩ := G.rep.s
    exact .inr (.inr ⟨z, rfl, q _ H1 [] G.same (wk_str z) (fun _ a m => nomatch m) (fun a m => nomatch m) (fun a m => nomatch m) As⟩)
  | _ => cases e2
theorem wk_rng {K : PySem.W.Frag} {H : Hp} (lo hi : Int) : Wk K (Itr lo (hi - lo).toNat) H (rngD lo hi) [] := by
  intro i H' s
  unfold rngD
  rw [List.length_map, List.length_range]
  refine ⟨fun hl => Nat.le_of_eq hl.symm, fun d hd => ?_⟩
  rw [List.getElem?_map] at hd
  obtain ⟨j, hj, rfl⟩ := Option.map_eq_some_iff.mp hd
  obtain ⟨hlt, rfl⟩ := List.getElem?_eq_some_iff.mp hj
  rw [List.length_range] at hlt
  refine ⟨hlt, fun x H'' ⟨e1, e2⟩ => ?_⟩
  subst e1 e2
  rw [List.getElem_range]
  exact ⟨[], Same.refl _, .int _, fun a m => nomatch m⟩
theorem QI_r1 (hg : Gl X "range") (hm : X.mg "range" = none) (ha : QE X a (ev cal ea false)) (hs : noStar a = true) : QIx X tg (.Call (.Name "range" p) [a] [] pos) (evi cal (.rng1 ea)) none := by
  refine pi_imp (pi_range1 hg hm (pa_cons ha pa_nil (star_of hs)) (star_of hs)) fun σ H R ⟨ρ, φ, b, ds, Rr, e, q⟩ => ?_
  simp only [evi] at e
  split at e
  · rename_i b1 n e1
    split at e
    · rename_i hn
      simp only [Option.some.injEq, Prod.mk.injEq] at e
      obtain ⟨rfl, rfl⟩ := e
      refine ⟨ρ, φ, b1, _, Rr, e1, fun v H1 g G => ⟨n, by rw [G.rep.i.1], by omega, by omega, ?_⟩⟩
      have := q (Itr 0 n.toNat) H1 [] G.same (by have := wk_rng (K := X.K) (H := H1) 0 n; rwa [Int.sub_zero] at this) (fun _ a m => nomatch m) (fun a m => nomatch m) (fun a m => nomatch m) fun is z => nomatch z
      exact this
    · cases e
  · cases e
theorem QI_r2 (hg : Gl X "range") (hm : X.mg "range" = none) (ha : QE X a (ev cal ea false)) (hb : QE X b (ev cal eb false)) (hs : noStar a = true) (hs2 : noStar b = true) : QIx X tg (.Call (.Name "range" p) [a, b] [] pos) (evi cal (.rng2 ea eb)) none := by
  refine pi_imp (pi_range2 hg hm (pa_cons ha (pa_cons hb pa_nil (star_of hs2)) (star_of hs)) (by rw [star_of hs, star_of hs2]; rfl) (by rw [star_of hs2]; rfl)) fun σ H R ⟨ρ, φ, bb, ds, Rr, e, q⟩ => ?_
  simp only [evi] at e
  split at e
  · rename_i b1 m e1
    split at e
    · rename_i b2 n e2
      split at e
      · rename_i hn
        simp only [Option.some.injEq, Prod.mk.injEq] at e
        obtain ⟨rfl, rfl⟩ := e
        refine ⟨ρ, φ, b1, _, Rr, e1, fun v H1 g G => ⟨ρ, φ, b2, _, Rr.same G.same, e2, fun v2 H2 g2 G2 => ⟨m, n, by rw [G.rep.i.1, G2.rep.i.1], ⟨by omega, by omega, by omega, by omega⟩, ?_⟩⟩⟩
        exact q _ H2 [] (G.same.trans G2.same) (wk_rng m n) (fun _ a m => nomatch m) (fun a m => nomatch m) (fun a m => nomatch m) fun is z => nomatch z
      · cases e
    · cases e
  · cases e
theorem wk_rngN {K : PySem.W.Frag} {H : Hp} (lo hi : Int) : Wk K (Itc lo (-1) (lo - hi).toNat) H (rngN lo hi) [] := by
  intro i H' s
  unfold rngN
  rw [List.length_map, List.length_range]
  refine ⟨fun hl => Nat.le_of_eq hl.symm, fun d hd => ?_⟩
  rw [List.getElem?_map] at hd
  obtain ⟨j, hj, rfl⟩ := Option.map_eq_some_iff.mp hd
  obtain ⟨hlt, rfl⟩ := List.getElem?_eq_some_iff.mp hj
  rw [List.length_range] at hlt
  refine ⟨hlt, fun x H'' ⟨e1, e2⟩ => ?_⟩
  subst e1 e2
  rw [List.getElem_range]
  have e : lo + (i : Nat) * (-1) = lo - ((i : Nat) : Int) := by omega
  rw [e]
  exact ⟨[], Same.refl _, .int _, fun a m => nomatch m⟩
theorem QI_r3 (hg : Gl X "range") (hm : X.mg "range" = none) (ha : QE X a (ev cal ea false)) (hb : QE X b (ev cal eb false)) {c : Expr} {ec : E} (hc : QE X c (ev cal ec false)) (hs : noStar a = true) (hs2 : noStar b = true) (hs3 : noStar c = true) : QIx X tg (.Call (.Name "range" p) [a, b, c] [] pos) (evi cal (.rng3 ea eb ec)) none := by
  refine pi_imp (pi_range3 hg hm (pa_cons ha (pa_cons hb (pa_cons hc pa_nil (star_of hs3)) (star_of hs2)) (star_of hs)) (star_of hs) (by rw [star_of hs2, star_of hs3]; rfl)) fun σ H R ⟨ρ, φ, bb, ds, Rr, e, q⟩ => ?_
  simp only [evi] at e
  split at e
  · rename_i b1 m e1
    split at e
    · rename_i b2 n e2
      split at e
      · rename_i b3 t e3
        split at e
        · rename_i hn
          simp only [Option.some.injEq, Prod.mk.injEq] at e
          obtain ⟨rfl, rfl⟩ := e
          obtain ⟨rfl, h1, h2, h3, h4⟩ := hn
          refine ⟨ρ, φ, b1, _, Rr, e1, fun v H1 g G => ⟨ρ, φ, b2, _, Rr.same G.same, e2, fun v2 H2 g2 G2 => ⟨ρ, φ, b3, _, (Rr.same G.same).same G2.same, e3, fun v3 H3 g3 G3 => ⟨m, n, -1, _, by rw [G.rep.i.1, G2.rep.i.1, G3.rep.i.1], RgC.neg (by omega) (by omega) (by omega) (by omega), ?_⟩⟩⟩⟩
          exact q _ H3 [] ((G.same.trans G2.same).trans G3.same) (wk_rngN m n) (fun _ a m => nomatch m) (fun a m => nomatch m) (fun a m => nomatch m) fun is z => nomatch z
        · cases e
      · cases e
    · cases e
  · cases e
theorem wk_enm {K : PySem.W.Frag} {H : Hp} {p : Bool} {c : Addr} {us : List V} {xs : List D} {fs : List Addr} (ha : LstAt H p c us) (ra : Reps K H p us xs fs) : Wk K (Ite K c) H (enmD xs) (c :: fs) := by
  intro i H' s
  have r' := ra.stand s fun a m => List.mem_cons_of_mem _ m
  have h' : LstAt H' p c us := ha.keep (s.at_ c List.mem_cons_self)
  unfold enmD
  rw [List.length_map, List.length_zipIdx]
  refine ⟨fun hl => ⟨us, .inl h'.rd, by rw [ra.length]; exact Nat.le_of_eq hl.symm⟩, fun d hd => ?_⟩
  rw [List.getElem?_map, List.getElem?_zipIdx] at hd
  cases hx : xs[i]? with
  | none => rw [hx] at hd; cases hd
  | some z =>
    rw [hx] at hd
    simp only [Option.map_some, Nat.zero_add, Option.some.injEq] at hd
    subst hd
    obtain ⟨v, g, h1, h2, h3⟩ := r'.get hx
    refine ⟨⟨us, v, .inl h'.rd, h1⟩, fun x H'' ⟨T, w, e1, hT, e2, e3⟩ => ?_⟩
    have := e3 us (.inl h'.rd)
    rw [h1] at this
    cases this
    subst e1 e2
    refine ⟨g, same_new hT, ?_, fun a m => List.mem_cons_of_mem _ (h3 a m)⟩
    exact (Reps.cons (.int (i : Nat)) (Reps.one h2.sh)).newTup hT
theorem wk_enmT {K : PySem.W.Frag} {H : Hp} {p : Bool} {c : Addr} {us : List V} {xs : List D} {fs : List Addr} (ha : H c = some (.tup us)) (ra : Reps K H p us xs fs) : Wk K (IteT K c) H (enmD xs) fs := by
  intro i H' s
  have r' := ra.stand s fun a m => m
  have h' := s.tup c us ha
  unfold enmD
  rw [List.length_map, List.length_zipIdx]
  refine ⟨fun hl => ⟨us, SqT.of h', by rw [ra.length]; exact hl.symm⟩, fun d hd => ?_⟩
  rw [List.getElem?_map, List.getElem?_zipIdx] at hd
  cases hx : xs[i]? with
  | none => rw [hx] at hd; cases hd
  | some z =>
    rw [hx] at hd
    simp only [Option.map_some, Nat.zero_add, Option.some.injEq] at hd
    subst hd
    obtain ⟨v, g, h1, h2, h3⟩ := r'.get hx
    refine ⟨⟨us, v, SqT.of h', h1⟩, fun x H'' ⟨T, w, e1, hT, e2, e3⟩ => ?_⟩
    have := e3 us (SqT.of h')
    rw [h1] at this
    cases this
    subst e1 e2
    exact ⟨g, same_new hT, (Reps.cons (.int (i : Nat)) (Reps.one h2.sh)).newTup hT, h3⟩
theorem QI_enm {elts : List Expr} {kk : Nat} {tpos : Pos} {o : Option (List Nat)} (hg : Gl X "enumerate") (hm : X.mg "enumerate" = none) (ha : QEx X a (ev cal ea false) o) (hs : noStar a = true) : QIx X (.Tuple elts kk tpos) (.Call (.Name "enumerate" p) [a] [] pos) (evi cal (.enm ea)) o := by
  refine pi_imp (pi_enA hg hm (pa_cons ha pa_nil (star_of hs)) (star_of hs)) fun σ H R ⟨ρ, φ, b, ds, Rr, e, q⟩ => ?_
  simp only [evi] at e
  split at e
  · rename_i b1 xs e1
    simp only [Option.some.injEq, Prod.mk.injEq] at e
    obtain ⟨rfl, rfl⟩ := e
    refine ⟨ρ, φ, b1, _, Rr, e1, fun v H1 g G As => ?_⟩
    obtain ⟨c, us, fs, rfl, ha, ra, rfl⟩ := G.rep.l
    exact ⟨c, us, rfl, .inl ⟨.inl ha.rd, q _ H1 (c :: fs) G.same (wk_enm ha ra) (fun z => (G.fr z).2) G.al G.rep.trk As⟩⟩
  · rename_i b1 xs e1
    simp only [Option.some.injEq, Prod.mk.injEq] at e
    obtain ⟨rfl, rfl⟩ := e
    refine ⟨ρ, φ, b1, _, Rr, e1, fun v H1 g G As => ?_⟩
    obtain ⟨c, us, rfl, ha, ra⟩ := G.rep.t
    exact ⟨c, us, rfl, .inr ⟨SqT.of ha, q _ H1 g G.same (wk_enmT ha ra) (fun z => (G.fr z).2) G.al G.rep.trk As⟩⟩
  · cases e
theorem zipD_get {xs ys : List D} {i : Nat} {d : D} (h : (zipD xs ys)[i]? = some d) : ∃ x y, xs[i]? = some x ∧ ys[i]? = some y ∧ d = .tuple [x, y] := by
  unfold zipD at h
  rw [List.getElem?_map] at h
  obtain ⟨⟨x, y⟩, h1, rfl⟩ := Option.map_eq_some_iff.mp h
  rw [List.getElem?_zip_eq_some] at h1
  exact ⟨x, y, h1.1, h1.2, rfl⟩
theorem wk_zip {K : PySem.W.Frag} {H : Hp} {p p' : Bool} {c c' : Addr} {us us' : List V} {xs ys : List D} {fs fs' : List Addr} (ha : LstAt H p c us) (ra : Reps K H p us xs fs) (hb : LstAt H p' c' us') (rb : Reps K H p' us' ys fs') : Wk K (Itz K c c') H (zipD xs ys) ((c :: fs) ++ (c' :: fs')) := by
  intro i H' s
  have mA : ∀ a ∈ c :: fs, a ∈ (c :: fs) ++ (c' :: fs') := fun a m => List.mem_append_left _ m
  have mB : ∀ a ∈ c' :: fs', a ∈ (c :: fs) ++ (c' :: fs') := fun a m => List.mem_append_right _ m
  have r' := ra.stand s fun a m => mA a (List.mem_cons_of_mem _ m)
  have q' := rb.stand s fun a m => mB a (List.mem_cons_of_mem _ m)
  have h' : LstAt H' p c us := ha.keep (s.at_ c (mA c List.mem_cons_self))
  have h2' : LstAt H' p' c' us' := hb.keep (s.at_ c' (mB c' List.mem_cons_self))
  refine ⟨fun hl => ⟨us, us', .inl h'.rd, .inl h2'.rd, ?_⟩, fun d hd => ?_⟩
  · rw [ra.length, rb.length]
    unfold zipD at hl
    rw [List.length_map, List.length_zip] at hl
    omega
  · obtain ⟨x, y, h1, h2, rfl⟩ := zipD_get hd
    obtain ⟨v, g, a1, a2, a3⟩ := r'.get h1
    obtain ⟨w, k, b1, b2, b3⟩ := q'.get h2
    refine ⟨⟨us, us', v, w, .inl h'.rd, .inl h2'.rd, a1, b1⟩, fun z H'' ⟨T, v', w', e1, hT, e2, e3, e4⟩ => ?_⟩
    have t1 := e3 us (.inl h'.rd)
    have t2 := e4 us' (.inl h2'.rd)
    rw [a1] at t1
    rw [b1] at t2
    cases t1
    cases t2
    subst e1 e2
    refine ⟨g ++ k, same_new hT, (Reps.cons a2.sh (Reps.one b2.sh)).newTup hT, fun a m => ?_⟩
    rcases List.mem_append.mp m with z | z
    · exact mA a (List.mem_cons_of_mem _ (a3 a z))
    · exact mB a (List.mem_cons_of_mem _ (b3 a z))
theorem wk_zipT {K : PySem.W.Frag} {H : Hp} {p p' : Bool} {c c' : Addr} {us us' : List V} {xs ys : List D} {fs fs' : List Addr} (ha : H c = some (.tup us)) (ra : Reps K H p us xs fs) (hb : H c' = some (.tup us')) (rb : Reps K H p' us' ys fs') : Wk K (ItzT K c c') H (zipD xs ys) (fs ++ fs') := by
  intro i H' s
  have r' := ra.stand s fun a m => List.mem_append_left _ m
  have q' := rb.stand s fun a m => List.mem_append_right _ m
  have h' := s.tup c us ha
  have h2' := s.tup c' us' hb
  refine ⟨fun hl => ⟨us, us', SqT.of h', SqT.of h2', ?_⟩, fun d hd => ?_⟩
  · rw [ra.length, rb.length]
    unfold zipD at hl
    rw [List.length_map, List.length_zip] at hl
    omega
  · obtain ⟨x, y, h1, h2, rfl⟩ := zipD_get hd
    obtain ⟨v, g, a1, a2, a3⟩ := r'.get h1
    obtain ⟨w, k, b1, b2, b3⟩ := q'.get h2
    refine ⟨⟨us, us', v, w, SqT.of h', SqT.of h2', a1, b1⟩, fun z H'' ⟨T, v', w', e1, hT, e2, e3, e4⟩ => ?_⟩
    have t1 := e3 us (SqT.of h')
    have t2 := e4 us' (SqT.of h2')
    rw [a1] at t1
    rw [b1] at t2
    cases t1
    cases t2
    subst e1 e2
    refine ⟨g ++ k, same_new hT, (Reps.cons a2.sh (Reps.one b2.sh)).newTup hT, fun a m => ?_⟩
    rcases List.mem_append.mp m with z | z
    · exact List.mem_append_left _ (a3 a z)
    · exact List.mem_append_right _ (b3 a z)
/-- zip of two lists or two tuples -/
def evz (cal : Nat → List (Bool × D) → Option (Bool × D)) (a b : E) (ρ : Ev) : Option (Bool × List D) := match ev cal a false ρ with
  | none => none
  | some (p, x) => match ev cal b false ρ with
    | none => none
    | some (q, y) => match x, y with
      | .list xs, .list ys => some (p && q, zipD xs ys)
      | .tuple xs, .tuple ys => some (p && q, zipD xs ys)
      | _, _ => none
/-- zip of a tuple and a text -/
def evzS (cal : Nat → List (Bool × D) → Option (Bool × D)) (a b : E) (ρ : Ev) : Option (Bool × List D) := match ev cal a false ρ with
  | none => none
  | some (p, x) => match ev cal b false ρ with
    | none => none
    | some (q, y) => match x, y with
      | .tuple xs, .str z => some (p && q, zipD xs (z.cps.toList.map fun c => .str ⟨#[c]⟩))
      | _, _ => none
theorem evz_or {cal : Nat → List (Bool × D) → Option (Bool × D)} {a b : E} {ρ : Ev} {r : Bool × List D} (h : evi cal (.zip a b) ρ = some r) : evz cal a b ρ = some r ∨ evzS cal a b ρ = some r := by
  simp only [evi] at h
  unfold evz evzS
  split at h
  · cases h
  rename_i p x e1
  split at h
  · cases h
  rename_i q y e2
  try rw [e1, e2]
  try dsimp only
  split at h
  · exact .inl h
  · exact .inl h
  · exact .inr h
  · cases h
theorem QI_zipA {elts : List Expr} {kk : Nat} {tpos : Pos} {o o2 : Option (List Nat)} (hg : Gl X "zip") (hm : X.mg "zip" = none) (ha : QEx X a (ev cal ea false) o) (hb : QEx X b (ev cal eb false) o2) (hs : noStar a = true) (hs2 : noStar b = true) : QIx X (.Tuple elts kk tpos) (.Call (.Name "zip" p) [a, b] [] pos) (evz cal ea eb) (o.bind fun x => o2.map fun y => x ++ y) := by
  refine pi_imp (pi_zipA hg hm (pa_cons ha (pa_cons hb pa_nil (star_of hs2)) (star_of hs)) (star_of hs) (star_any (by simp [hs2]))) fun σ H R ⟨ρ, φ, b, ds, Rr, e, q⟩ => ?_
  unfold evz at e
  split at e
  · cases e
  rename_i b1 x e1
  split at e
  · cases e
  rename_i b2 y e2
  refine ⟨ρ, φ, b1, _, Rr, e1, fun v H1 g G As => ⟨ρ, φ, b2, _, Rr.same G.same, e2, fun v2 H2 g2 G2 As2 => ?_⟩⟩
  have G1 := G.step G2.same
  have al : ∀ a ∈ g ++ g2, H a = none ∨ ∃ f ∈ φ, a ∈ f := fun a m => by
    rcases List.mem_append.mp m with z | z
    · exact G.al a z
    · exact (G2.al a z).imp G.same.free id
  have tr : ∀ a ∈ g ++ g2, H2 a ≠ none := fun a m => by
    rcases List.mem_append.mp m with z | z
    · exact G1.rep.trk a z
    · exact G2.rep.trk a z
  have fr : (b1 && b2) = true → ∀ a ∈ g ++ g2, H a = none := fun z a m => by
    rw [Bool.and_eq_true] at z
    rcases List.mem_append.mp m with w | w
    · exact (G.fr z.1).2 a w
    · exact G.same.free ((G2.fr z.2).2 a w)
  have AS : AlS (o.bind fun x => o2.map fun y => x ++ y) H φ (g ++ g2) := fun is z a m => by
    cases o with
    | none => cases z
    | some x =>
      cases o2 with
      | none => cases z
      | some y =>
        cases z
        rcases List.mem_append.mp m with w | w
        · exact (As x rfl a w).imp id fun ⟨i, hi, q⟩ => ⟨i, List.mem_append_left _ hi, q⟩
        · exact (As2 y rfl a w).imp G.same.free fun ⟨i, hi, q⟩ => ⟨i, List.mem_append_right _ hi, q⟩
  split at e
  · rename_i xs ys
    simp only [Option.some.injEq, Prod.mk.injEq] at e
    obtain ⟨rfl, rfl⟩ := e
    obtain ⟨c, us, fs, rfl, ha, ra, rfl⟩ := G1.rep.l
    obtain ⟨c2, us2, fs2, rfl, ha2, ra2, rfl⟩ := G2.rep.l
    exact ⟨c, c2, us, us2, rfl, .inl ⟨.inl ha.rd, .inl ha2.rd, q _ H2 _ (G.same.trans G2.same) (wk_zip ha ra ha2 ra2) fr al tr AS⟩⟩
  · rename_i xs ys
    simp only [Option.some.injEq, Prod.mk.injEq] at e
    obtain ⟨rfl, rfl⟩ := e
    obtain ⟨c, us, rfl, ha, ra⟩ := G1.rep.t
    obtain ⟨c2, us2, rfl, ha2, ra2⟩ := G2.rep.t
    exact ⟨c, c2, us, us2, rfl, .inr ⟨SqT.of ha, SqT.of ha2, q _ H2 _ (G.same.trans G2.same) (wk_zipT ha ra ha2 ra2) fr al tr AS⟩⟩
  · cases e
theorem wk_zipS {K : PySem.W.Frag} {H : Hp} {p : Bool} {c : Addr} {us : List V} {xs : List D} {fs : List Addr} (z : Str) (ha : H c = some (.tup us)) (ra : Reps K H p us xs fs) : Wk K (ItP.ItzS K c z) H (zipD xs (z.cps.toList.map fun c => .str ⟨#[c]⟩)) fs := by
  intro i H' s
  have r' := ra.stand s fun a m => m
  have h' : H' c = some (.tup us) := s.tup c us ha
  have hl := ra.length
  refine ⟨fun he => ?_, fun d hd => ?_⟩
  · refine ⟨us, SqT.of h', ?_⟩
    unfold zipD at he
    rw [List.length_map, List.length_zip, List.length_map] at he
    have e2 : z.cps.toList.length = z.cps.size := by simp
    omega
  · obtain ⟨x, y, h1, h2, rfl⟩ := zipD_get hd
    rw [List.getElem?_map] at h2
    obtain ⟨cc, hc, rfl⟩ := Option.map_eq_some_iff.mp h2
    have hc' : z.cps[i]? = some cc := by simpa using hc
    obtain ⟨v, g, g1, g2, g3⟩ := r'.get h1
    refine ⟨⟨us, v, SqT.of h', g1, (Array.getElem?_eq_some_iff.mp hc').1⟩, fun x' H'' ⟨T, u, cv, ex, hT, eH, e3, e4⟩ => ?_⟩
    have e5 := e3 us (SqT.of h')
    rw [g1] at e5
    cases e5
    rw [hc'] at e4
    cases e4
    subst ex eH
    refine ⟨g, same_new hT, ?_, g3⟩
    have r2 : Reps K H' false [v, .str ⟨#[cc]⟩] [x, .str ⟨#[cc]⟩] (g ++ ([] ++ [])) := .cons g2.sh (.cons (.str _) .nil)
    have r3 := r2.newTup hT
    simpa using r3
theorem QI_zipS {elts : List Expr} {kk : Nat} {tpos : Pos} {o : Option (List Nat)} (hg : Gl X "zip") (hm : X.mg "zip" = none) (ha : QEx X a (ev cal ea false) o) (hb : QE X b (ev cal eb false)) (hs : noStar a = true) (hs2 : noStar b = true) : QIx X (.Tuple elts kk tpos) (.Call (.Name "zip" p) [a, b] [] pos) (evzS cal ea eb) o := by
  refine pi_imp (ItP.pi_zipS hg hm (pa_cons ha (pa_cons hb pa_nil (star_of hs2)) (star_of hs)) (star_of hs) (star_any (by simp [hs2]))) fun σ H R ⟨ρ, φ, b, ds, Rr, e, q⟩ => ?_
  unfold evzS at e
  split at e
  · cases e
  rename_i b1 x e1
  split at e
  · cases e
  rename_i b2 y e2
  refine ⟨ρ, φ, b1, _, Rr, e1, fun v H1 g G As => ⟨ρ, φ, b2, _, Rr.same G.same, e2, fun v2 H2 g2 G2 => ?_⟩⟩
  have G1 := G.step G2.same
  split at e
  · rename_i xs z
    simp only [Option.some.injEq, Prod.mk.injEq] at e
    obtain ⟨rfl, rfl⟩ := e
    obtain ⟨c, us, rfl, ha, ra⟩ := G1.rep.t
    obtain ⟨rfl, rfl⟩ := G2.rep.s
    refine ⟨c, z, us, rfl, SqT.of ha, q _ H2 g (G.same.trans G2.same) (wk_zipS z ha ra) (fun w => ?_) G.al (fun a m => G1.rep.trk a m) As⟩
    rw [Bool.and_eq_true] at w
    exact (G.fr w.1).2
  · cases e
theorem AlS.app {o o2 : Option (List Nat)} {H : Hp} {φ : List (List Addr)} {g : List Addr} (h : AlS o H φ g) : AlS (o.bind fun x => o2.map fun y => x ++ y) H φ g := fun is z a m => by
  cases o with
  | none => cases z
  | some x =>
    cases o2 with
    | none => cases z
    | some y =>
      cases z
      exact (h x rfl a m).imp id fun ⟨i, hi, q⟩ => ⟨i, List.mem_append_left _ hi, q⟩
theorem QI_zip {elts : List Expr} {kk : Nat} {tpos : Pos} {o o2 : Option (List Nat)} (hg : Gl X "zip") (hm : X.mg "zip" = none) (ha : QEx X a (ev cal ea false) o) (hb : QEx X b (ev cal eb false) o2) (hb0 : QE X b (ev cal eb false)) (hs : noStar a = true) (hs2 : noStar b = true) : QIx X (.Tuple elts kk tpos) (.Call (.Name "zip" p) [a, b] [] pos) (evi cal (.zip ea eb)) (o.bind fun x => o2.map fun y => x ++ y) := by
  refine pi_imp (ItP.pi_or (QI_zipA hg hm ha hb hs hs2) (QI_zipS hg hm ha hb0 hs hs2)) fun σ H R ⟨ρ, φ, b, ds, Rr, e, q⟩ => ?_
  rcases evz_or e with e | e
  · exact .inl ⟨ρ, φ, b, ds, Rr, e, q⟩
  · exact .inr ⟨ρ, φ, b, ds, Rr, e, fun J H1 g s w fr al tr As => q J H1 g s w fr al tr As.app⟩
end
end Den

set_option Elab.async false
set_option linter.all false
set_option maxRecDepth 100000
/-! DenIt: walks over permutations and combinations. -/
namespace Den
open PySem PySem.Spec PyProof.Rows L2 RZ
section
variable {K : PySem.W.Frag} {H H1 : Hp}
theorem reps_get0 {b : Bool} {us : List V} {ds : List D} (h : Reps K H b us ds []) (j : Nat) : Rep K H b (us.getD j .non) (ds.getD j .none) [] := by
  have hl := h.length
  by_cases hj : j < ds.length
  · obtain ⟨v, g, h1, h2, h3⟩ := h.get (List.getElem?_eq_getElem hj)
    have : g = [] := List.eq_nil_iff_forall_not_mem.mpr fun a m => nomatch h3 a m
    subst this
    rw [List.getD_eq_getElem?_getD, List.getD_eq_getElem?_getD, h1, List.getElem?_eq_getElem hj]
    exact h2
  · rw [List.getD_eq_getElem?_getD, List.getD_eq_getElem?_getD, List.getElem?_eq_none (by omega), List.getElem?_eq_none (by omega)]
    exact .non
theorem reps_row {b : Bool} {us : List V} {ds : List D} (h : Reps K H b us ds []) : ∀ p : List Nat, Reps K H b (ItP.rowV us p) (rowD ds p) []
  | [] => .nil
  | j :: p => .cons (f := []) (fs := []) (reps_get0 h j) (reps_row h p)
theorem wk_itx {us : List V} {ds : List D} (L : List (List Nat)) (h : Reps K H1 false us ds []) : Wk K (ItP.Itx (L.map (ItP.rowV us))) H1 (L.map fun p => .tuple (rowD ds p)) [] := by
  intro i H' s
  refine ⟨fun hl => ?_, fun d hd => ?_⟩
  · show (L.map (ItP.rowV us)).length ≤ i
    rw [hl, List.length_map, List.length_map]
    exact Nat.le_refl _
  · rw [List.getElem?_map] at hd
    obtain ⟨p, hp, rfl⟩ := Option.map_eq_some_iff.mp hd
    refine ⟨?_, fun x H'' ⟨T, r, hr, ex, hT, eH⟩ => ?_⟩
    · show i < (L.map (ItP.rowV us)).length
      rw [List.length_map]
      exact (List.getElem?_eq_some_iff.mp hp).1
    · rw [List.getElem?_map, hp] at hr
      cases hr
      subst ex eH
      have r1 : Reps K H' false us ds [] := h.stand s fun a m => m
      exact ⟨[], same_new hT, (reps_row r1 p).newTup hT, fun a m => nomatch m⟩
theorem reps_intsV {b : Bool} : ∀ l : List Nat, Reps K H b (l.map fun (i : Nat) => V.int (i : Int)) (l.map fun (i : Nat) => .int (0 + (i : Int))) []
  | [] => .nil
  | i :: l => .cons (f := []) (fs := []) (show Rep K H b (V.int (i : Int)) (.int (0 + (i : Int))) [] by rw [Int.zero_add]; exact .int _) (reps_intsV l)
theorem reps_rng {b : Bool} (n : Int) : Reps K H b (ItP.intsV n.toNat) (rngD 0 n) [] := by
  unfold ItP.intsV rngD
  rw [Int.sub_zero]
  exact reps_intsV _
end
section
variable {X : Cx} {cal : Nat → List (Bool × D) → Option (Bool × D)} {tg a b : Expr} {ea eb : E} {x : Str} {p p2 pos pos2 : Pos}
theorem QI_pmR (hc : X.calm = true) (hg : Gl X x) (hm : X.mg x = some (.type "itertools.permutations")) (hd : (x == ("__debug__" : Str)) = false) (hg2 : Gl X "range") (hm2 : X.mg "range" = none) (ha : QE X a (ev cal ea false)) (hs : noStar a = true) :
    QIx X tg (.Call (.Name x p) [.Call (.Name "range" p2) [a] [] pos2] [] pos) (evi cal (.pmR ea)) none := by
  refine pi_imp (ItP.pi_pmR hc hg hm hd hg2 hm2 ha (star_of hs)) fun σ H R ⟨ρ, φ, b, ds, Rr, e, q⟩ => ?_
  simp only [evi] at e
  split at e
  · rename_i b1 n e1
    split at e
    · rename_i hn
      simp only [Option.some.injEq, Prod.mk.injEq] at e
      obtain ⟨rfl, rfl⟩ := e
      refine ⟨ρ, φ, b1, .int n, Rr, e1, fun v H1 g G => ⟨n, G.rep.i.1, fun r hr => ⟨r, n.toNat, rfl, by omega, ?_, ?_⟩⟩⟩
      · rw [upd_same, Int.toNat_of_nonneg hn.1]
      · have e3 : ItP.pmRows (ItP.intsV n.toNat) = (ItP.permI n.toNat).map (ItP.rowV (ItP.intsV n.toNat)) := by
          unfold ItP.pmRows
          rw [show (ItP.intsV n.toNat).length = n.toNat by unfold ItP.intsV; simp]
        rw [e3]
        exact q _ _ [] (G.same.trans (same_new hr)) (wk_itx _ (reps_rng n)) (fun _ a m => nomatch m) (fun a m => nomatch m) (fun a m => nomatch m) (fun is z a m => nomatch m)
    · cases e
  · cases e
theorem QI_cbR (hc : X.calm = true) (hg : Gl X x) (hm : X.mg x = some (.type "itertools.combinations")) (hd : (x == ("__debug__" : Str)) = false) (hg2 : Gl X "range") (hm2 : X.mg "range" = none) (ha : QE X a (ev cal ea false)) (hb : QE X b (ev cal eb false)) (hs : noStar a = true) (hs2 : noStar b = true) :
    QIx X tg (.Call (.Name x p) [.Call (.Name "range" p2) [a] [] pos2, b] [] pos) (evi cal (.cbR ea eb)) none := by
  refine pi_imp (ItP.pi_cbR hc hg hm hd hg2 hm2 ha hb (star_of hs) (star_of hs2) (star_any (es := [b]) (by simp [hs2]))) fun σ H R ⟨ρ, φ, b, ds, Rr, e, q⟩ => ?_
  simp only [evi] at e
  split at e
  · rename_i b1 n e1
    split at e
    · rename_i b2 k e2
      split at e
      · rename_i hn
        simp only [Option.some.injEq, Prod.mk.injEq] at e
        obtain ⟨rfl, rfl⟩ := e
        refine ⟨ρ, φ, b1, .int n, Rr, e1, fun v H1 g G => ⟨n, G.rep.i.1, fun r hr => ⟨ρ, φ, b2, .int k, Rr.same (G.same.trans (same_new hr)), e2, fun v2 H2 g2 G2 => ⟨r, n.toNat, k.toNat, rfl, ?_, by omega, by omega, ?_, ?_⟩⟩⟩⟩
        · rw [G2.rep.i.1, Int.toNat_of_nonneg hn.2.1]
        · rw [Int.toNat_of_nonneg hn.1.1]
          exact G2.same.at upd_same fun _ z => nomatch z
        · have e3 : ItP.cbRows (ItP.intsV n.toNat) k.toNat = (ItP.combI n.toNat k.toNat).map (ItP.rowV (ItP.intsV n.toNat)) := by
            unfold ItP.cbRows
            rw [show (ItP.intsV n.toNat).length = n.toNat by unfold ItP.intsV; simp]
          rw [e3]
          exact q _ _ [] ((G.same.trans (same_new hr)).trans G2.same) (wk_itx _ (reps_rng n)) (fun _ a m => nomatch m) (fun a m => nomatch m) (fun a m => nomatch m) (fun is z a m => nomatch m)
      · cases e
    · cases e
  · cases e
theorem QI_cbV (hc : X.calm = true) (hg : Gl X x) (hm : X.mg x = some (.type "itertools.combinations")) (hd : (x == ("__debug__" : Str)) = false) (ha : QE X a (ev cal ea false)) (hb : QE X b (ev cal eb false)) (hs : noStar a = true) (hs2 : noStar b = true) :
    QIx X tg (.Call (.Name x p) [a, b] [] pos) (evi cal (.cbV ea eb)) none := by
  refine pi_imp (ItP.pi_cbV hc hg hm hd ha hb (star_of hs) (star_of hs2) (star_any (es := [b]) (by simp [hs2]))) fun σ H R ⟨ρ, φ, b, ds, Rr, e, q⟩ => ?_
  simp only [evi] at e
  split at e
  · cases e
  rename_i b1 d e1
  split at e
  · rename_i b2 k e2
    split at e
    · rename_i xs
      split at e
      · rename_i hn
        simp only [Option.some.injEq, Prod.mk.injEq] at e
        obtain ⟨rfl, rfl⟩ := e
        refine ⟨ρ, φ, b1, .list xs, Rr, e1, fun v H1 g G => ?_⟩
        obtain ⟨c, us, fs, rfl, ha, ra, rfl⟩ := G.rep.l
        have r0 := (ra.fz hn.1.2).2 false
        have hl := ra.length
        refine ⟨c, rfl, ρ, φ, b2, .int k, Rr.same G.same, e2, fun v2 H2 g2 G2 => ⟨k.toNat, us, ?_, by omega, by omega, ?_, ?_⟩⟩
        · rw [G2.rep.i.1, Int.toNat_of_nonneg hn.2.1]
        · exact .inl (.inl (ha.keep fun o h => G2.same c o h).rd)
        · unfold ItP.cbRows
          rw [hl]
          exact q _ _ [] (G.same.trans G2.same) (wk_itx _ (r0.stand (Stand.same (g := []) G2.same) fun a m => m)) (fun _ a m => nomatch m) (fun a m => nomatch m) (fun a m => nomatch m) (fun is z a m => nomatch m)
      · cases e
    · rename_i xs
      split at e
      · rename_i hn
        simp only [Option.some.injEq, Prod.mk.injEq] at e
        obtain ⟨rfl, rfl⟩ := e
        refine ⟨ρ, φ, b1, .tuple xs, Rr, e1, fun v H1 g G => ?_⟩
        obtain ⟨c, us, rfl, ha, ra⟩ := G.rep.t
        have r0 := (ra.fz hn.1.2).2 false
        have hl := ra.length
        refine ⟨c, rfl, ρ, φ, b2, .int k, Rr.same G.same, e2, fun v2 H2 g2 G2 => ⟨k.toNat, us, ?_, by omega, by omega, ?_, ?_⟩⟩
        · rw [G2.rep.i.1, Int.toNat_of_nonneg hn.2.1]
        · exact .inr (SqT.of (G2.same.at ha fun _ z => nomatch z))
        · unfold ItP.cbRows
          rw [hl]
          exact q _ _ [] (G.same.trans G2.same) (wk_itx _ (r0.stand (Stand.same (g := []) G2.same) fun a m => m)) (fun _ a m => nomatch m) (fun a m => nomatch m) (fun a m => nomatch m) (fun is z a m => nomatch m)
      · cases e
    · cases e
  · cases e
end
end Den

set_option Elab.async false
set_option linter.all false
set_option maxRecDepth 100000
/-! DenI: comprehensions. -/
namespace Den
open PySem PySem.Spec PyProof.Rows L2 RZ

section
variable {K : PySem.W.Frag} {H H0 H1 H3 H4 : Hp} {φ ψ : List (List Addr)} {ps : List (Bool × D)} {us : List V} {gs : List (List Addr)} {b : Bool} {d : D} {v : V} {g : List Addr}
theorem RepA.snoc (r : RepA K H ps us gs) (h : Rep K H b v d g) : RepA K H (ps ++ [(b, d)]) (us ++ [v]) (gs ++ [g]) := by
  induction r with
  | nil => exact .cons h .nil
  | cons r _ ih => exact .cons r ih
theorem get_snoc {α : Type} {xs : List α} {x y : α} {i : Nat} (h : (xs ++ [x])[i]? = some y) : xs[i]? = some y ∨ (i = xs.length ∧ x = y) := by
  rcases Nat.lt_trichotomy i xs.length with z | z | z
  · rw [List.getElem?_append_left z] at h; exact .inl h
  · subst z; simp at h; exact .inr ⟨rfl, h⟩
  · rw [List.getElem?_eq_none (by simp; omega)] at h; cases h
/-- one more -/
theorem GotA.snoc (G : GotA K H1 H3 ψ ps us gs) (n : Got K H3 H4 φ b v d g) (hφ : ∀ f ∈ φ, ∀ a ∈ f, H1 a ≠ none ∧ ∃ f0 ∈ ψ, a ∈ f0) : GotA K H1 H4 ψ (ps ++ [(b, d)]) (us ++ [v]) (gs ++ [g]) := by
  have t3 := G.rep.trk
  have hl := G.rep.len
  refine ⟨G.same.trans n.same, (G.rep.same n.same).snoc n.rep, fun i d' k e1 e2 => ?_, fun i d' k e1 e2 a m => ?_, fun k hk a m => ?_⟩
  · rcases get_snoc e1 with w | ⟨w, w2⟩
    · have hi : i < gs.length := by rw [hl.2]; exact (List.getElem?_eq_some_iff.mp w).1
      rw [List.getElem?_append_left hi] at e2
      obtain ⟨q1, q2⟩ := G.dj i d' k w e2
      refine ⟨q1, fun j h hj e3 a m mh => ?_⟩
      rcases get_snoc e3 with z | ⟨z, z2⟩
      · exact q2 j h hj z a m mh
      · subst z2
        rcases n.al a mh with y | ⟨f, hf, y⟩
        · exact t3 k (List.mem_of_getElem? e2) a m y
        · exact (hφ f hf a y).1 (G.fr i d' k w e2 a m)
    · simp only [Prod.mk.injEq] at w2
      obtain ⟨rfl, rfl⟩ := w2
      have : k = g := by
        rw [w, ← hl.2] at e2
        simpa using e2.symm
      subst this
      refine ⟨(n.fr rfl).1, fun j h hj e3 a m mh => ?_⟩
      rcases get_snoc e3 with z | ⟨z, _⟩
      · exact t3 h (List.mem_of_getElem? z) a mh ((n.fr rfl).2 a m)
      · exact hj (by rw [z, w, hl.2])
  · rcases get_snoc e1 with w | ⟨w, w2⟩
    · have hi : i < gs.length := by rw [hl.2]; exact (List.getElem?_eq_some_iff.mp w).1
      rw [List.getElem?_append_left hi] at e2
      exact G.fr i d' k w e2 a m
    · simp only [Prod.mk.injEq] at w2
      obtain ⟨rfl, rfl⟩ := w2
      have : k = g := by
        rw [w, ← hl.2] at e2
        simpa using e2.symm
      subst this
      exact G.same.free ((n.fr rfl).2 a m)
  · rcases List.mem_append.mp hk with w | w
    · exact G.al k w a m
    · obtain rfl := List.mem_singleton.mp w
      rcases n.al a m with y | ⟨f, hf, y⟩
      · exact .inl (G.same.free y)
      · exact .inr (hφ f hf a y).2
theorem RepA.keep {H H' : Hp} (r : RepA K H ps us gs) (ht : ∀ a xs, H a = some (.tup xs) → H' a = some (.tup xs)) (hz : ∀ a o xs, H a = some (.frz o (lt xs)) → H' a = some (.frz o (lt xs))) (k : ∀ g ∈ gs, ∀ a ∈ g, ∀ o, H a = some o → KeptAs o (H' a)) : RepA K H' ps us gs := by
  induction r with
  | nil => exact .nil
  | cons r _ ih => exact .cons (r.keep ht hz fun a m => k _ List.mem_cons_self a m) (ih fun g hg => k g (List.mem_cons_of_mem _ hg))
/-- a new object at D changes -/
theorem GotA.at (G : GotA K H1 H ψ ps us gs) {D : Addr} (hD : H1 D = none) (hn : ∀ g ∈ gs, D ∉ g) {x y : HO} (e : H D = some x) (hx : (∀ xs, x ≠ .tup xs) ∧ ∀ o xs, x ≠ .frz o (lt xs)) : GotA K H1 (upd H D y) ψ ps us gs := by
  refine ⟨fun a o ea => ?_, G.rep.keep (fun a xs ea => ?_) (fun a o xs ea => ?_) (fun g hg a m o ea => ?_), G.dj, G.fr, G.al⟩
  · rw [upd_ne (fun z => by rw [z, hD] at ea; cases ea)]; exact G.same a o ea
  · rw [upd_ne (fun z => by rw [z, e] at ea; exact hx.1 xs (Option.some.inj ea))]; exact ea
  · rw [upd_ne (fun z => by rw [z, e] at ea; exact hx.2 o xs (Option.some.inj ea))]; exact ea
  · rw [upd_ne (fun z => hn g hg (by rw [← z]; exact m))]; exact .of ea
theorem GotA.base (s : Same H0 H1) : GotA K H0 H1 ψ [] [] [] := ⟨s, .nil, fun i d g e => (nomatch e), fun i d g e => (nomatch e), fun g m => nomatch m⟩
end
theorem lst_obj {xs : List V} : (∀ ys, HO.lst xs ≠ .tup ys) ∧ ∀ o ys, HO.lst xs ≠ .frz o (lt ys) := ⟨fun _ z => (nomatch z), fun _ _ z => (nomatch z)⟩
theorem dk_obj {xs : List (Key × V)} : (∀ ys, HO.dK xs ≠ .tup ys) ∧ ∀ o ys, HO.dK xs ≠ .frz o (lt ys) := ⟨fun _ z => (nomatch z), fun _ _ z => (nomatch z)⟩

/-- a list in the making: at D, of these items -/
def LcS (K : PySem.W.Frag) (H1 : Hp) (ψ : List (List Addr)) (D : Addr) (ps : List (Bool × Den.D)) (H : Hp) : Prop := ∃ us gs, H D = some (.lst us) ∧ GotA K H1 H ψ ps us gs ∧ ∀ g ∈ gs, D ∉ g
theorem LcS.start {K : PySem.W.Frag} {H1 : Hp} {ψ : List (List Addr)} {D : Addr} (hD : H1 D = none) : LcS K H1 ψ D [] (upd H1 D (.lst [])) := ⟨[], [], upd_same, GotA.base (same_new hD), fun g m => nomatch m⟩
theorem LcS.same1 {K : PySem.W.Frag} {H1 H : Hp} {ψ : List (List Addr)} {D : Addr} {ps : List (Bool × Den.D)} (h : LcS K H1 ψ D ps H) : Same H1 H := let ⟨_, _, _, G, _⟩ := h; G.same
theorem GotA.step {K : PySem.W.Frag} {H1 H H' : Hp} {ψ : List (List Addr)} {ps : List (Bool × Den.D)} {us : List V} {gs : List (List Addr)} (G : GotA K H1 H ψ ps us gs) (s : Same H H') : GotA K H1 H' ψ ps us gs := ⟨G.same.trans s, G.rep.same s, G.dj, G.fr, G.al⟩
theorem LcS.step {K : PySem.W.Frag} {H1 H H' : Hp} {ψ : List (List Addr)} {D : Addr} {ps : List (Bool × Den.D)} (h : LcS K H1 ψ D ps H) (s : Same H H') : LcS K H1 ψ D ps H' := let ⟨us, gs, e, G, n⟩ := h; ⟨us, gs, s D _ e, G.step s, n⟩
theorem LcS.put {K : PySem.W.Frag} {H1 H3 H4 : Hp} {φ ψ : List (List Addr)} {D : Addr} {ps : List (Bool × Den.D)} {b : Bool} {v : V} {d : Den.D} {g : List Addr} (h : LcS K H1 ψ D ps H3) (hD : H1 D = none) (n : Got K H3 H4 φ b v d g) (hφ : ∀ f ∈ φ, ∀ a ∈ f, H1 a ≠ none ∧ ∃ f0 ∈ ψ, a ∈ f0) (hl : ps.length < sizeLine) :
    ∃ acc, H4 D = some (.lst acc) ∧ acc.length < sizeLine ∧ LcS K H1 ψ D (ps ++ [(b, d)]) (upd H4 D (.lst (acc ++ [v]))) := by
  obtain ⟨us, gs, e, G, hn⟩ := h
  have e4 := n.same D _ e
  have G4 := G.snoc n hφ
  have hn4 : ∀ k ∈ gs ++ [g], D ∉ k := fun k hk m => by
    rcases List.mem_append.mp hk with w | w
    · exact hn k w m
    · obtain rfl := List.mem_singleton.mp w
      rcases n.al D m with y | ⟨f, hf, y⟩
      · rw [y] at e; cases e
      · exact (hφ f hf D y).1 hD
  exact ⟨us, e4, by rw [G.rep.len.1]; exact hl, us ++ [v], gs ++ [g], upd_same, G4.at hD hn4 e4 lst_obj, hn4⟩
/-- the list made -/
theorem LcS.got {K : PySem.W.Frag} {H0 H1 H : Hp} {φ : List (List Addr)} {gw : List Addr} {D : Addr} {ps : List (Bool × Den.D)} (h : LcS K H1 (gw :: φ) D ps H) (hD : H1 D = none) (s : Same H0 H1) (hw : ∀ a ∈ gw, H0 a = none ∨ ∃ f ∈ φ, a ∈ f) : ∃ g, Got K H0 H φ (ps.all (·.1)) (.ref D) (.list (ps.map (·.2))) g := by
  obtain ⟨us, gs, e, G, hn⟩ := h
  obtain ⟨b, rfl, h1, h2, h3⟩ := disp_got G
  refine ⟨D :: gs.flatten, s.trans G.same, ?_, fun z => ⟨List.nodup_cons.mpr ⟨fun m => ?_, (h2 z).1⟩, fun a m => ?_⟩, fun a m => ?_⟩
  · exact .lst (by cases ps.all (·.1) <;> first | exact e | exact .inl e) h1
  · obtain ⟨k, hk, m⟩ := List.mem_flatten.mp m
    exact hn k hk m
  · rcases List.mem_cons.mp m with w | w
    · subst w; exact s.free hD
    · exact s.free ((h2 z).2 a w)
  · rcases List.mem_cons.mp m with w | w
    · subst w; exact .inl (s.free hD)
    · rcases h3 a w with y | ⟨f, hf, y⟩
      · exact .inl (s.free y)
      · rcases List.mem_cons.mp hf with z | z
        · subst z; exact hw a y
        · exact .inr ⟨f, z, y⟩

def QTs (X : Cx) (ifs : List Expr) (f : Ev → Option (Bool × D)) : Prop := PTs X ifs (tT X.K f)
theorem pts_imp {X : Cx} {e : List Expr} {t t' : TT} (h : PTs X e t) (w : ∀ σ H Q, t' σ H Q → t σ H Q) : PTs X e t' := ⟨fun pins s σ H Q I q => h.run pins s σ H Q I (w σ H Q q)⟩
section
variable {X : Cx} {cal : Nat → List (Bool × D) → Option (Bool × D)} {c : Expr} {ec : E}
theorem QTs_no : QTs X [] (evt cal .no) := by
  refine pts_imp pts_nil fun σ H Q ⟨ρ, φ, b, k, R, e, q⟩ => ?_
  simp only [evt, Option.some.injEq, Prod.mk.injEq, PyData.bool.injEq] at e
  obtain ⟨rfl, rfl⟩ := e
  exact q H (Same.refl _)
theorem QTs_so (h : QT X c (ev cal ec true)) : QTs X [c] (evt cal (.so ec)) := pts_one h
end

theorem drop_get {α : Type} {xs : List α} {i : Nat} {x : α} (h : xs[i]? = some x) : xs.drop i = x :: xs.drop (i + 1) := by
  obtain ⟨h1, rfl⟩ := List.getElem?_eq_some_iff.mp h
  exact List.drop_eq_getElem_cons h1
/-- one turn's stores tell of tracked things alone -/
theorem set_trk {K : PySem.W.Frag} {H1 H : Hp} {vs : List Nat} {b : Bool} {g gw : List Addr} {σ σ' : L2.St} {ρ ρ' : Ev} {φ φ' : List (List Addr)} (s : SetR K H vs b g σ ρ φ σ' ρ' φ') (hg : ∀ a ∈ g, a ∈ gw) (hw : ∀ a ∈ gw, H1 a ≠ none) (tr : ∀ f ∈ φ, ∀ a ∈ f, H1 a ≠ none) : ∀ f ∈ φ', ∀ a ∈ f, H1 a ≠ none ∧ ∃ f0 ∈ gw :: φ, a ∈ f0 := fun f hf a m => by
  rcases s.all f hf a m with ⟨f0, z1, z2⟩ | z
  · exact ⟨tr f0 z1 a z2, f0, List.mem_cons_of_mem _ z1, z2⟩
  · exact ⟨hw a (hg a z), gw, List.mem_cons_self, hg a z⟩
section
variable {X : Cx} {cal : Nat → List (Bool × D) → Option (Bool × D)}
theorem Stand.sub {g g' : List Addr} {H H' : Hp} (s : Stand g H H') (h : ∀ a ∈ g', a ∈ g) : Stand g' H H' := ⟨s.tup, s.frz, fun a m => s.at_ a (h a m), s.tb⟩
theorem _root_.Den.EnvR.stand {K : PySem.W.Frag} {H H' : Hp} {σ : L2.St} {ρ : Ev} {φ : List (List Addr)} {g : List Addr} (R : EnvR K H σ ρ φ) (s : Stand g H H') (h : ∀ f ∈ φ, ∀ a ∈ f, a ∈ g) : EnvR K H' σ ρ φ :=
  ⟨R.l1, R.l2, fun i b d e => let ⟨v, f, h1, h2, h3⟩ := R.at_ i b d e; ⟨v, f, h1, h2, h3.stand s fun a m => h f (List.mem_of_getElem? h2) a m⟩, fun f hf a m z => by
    have t := R.tr f hf a m
    cases e : H a with
    | none => exact t e
    | some o => exact (s.at_ a (h f hf a m) o e).ne z, fun c P hc hn => s.tb P (R.tb c P hc hn)⟩
theorem wipe_wipe (vs : List Nat) (σ : L2.St) : wipe (wipe σ vs) vs = wipe σ vs := by
  apply List.ext_getElem?
  intro j
  rw [wipe_get, wipe_get, wipe_length]
  by_cases hj : j ∈ vs ∧ j < σ.length <;> simp [hj]
/-- a list comprehension's value, its source read by fI -/
def lcVF (cal : Nat → List (Bool × D) → Option (Bool × D)) (fI : Ev → Option (Bool × List D)) (elt : E) (t : T) (ifs : Eo) (own : List Nat) (ρ : Ev) : Option (Bool × D) := match fI ρ with
  | none => none
  | some (_, xs) => match lcD (fun d ρ => setT t false d ρ) (fun ρ => evt cal ifs ρ) (fun ρ => ev cal elt false ρ) (wipeE ρ own) xs with
    | none => none
    | some ps => if xs.length ≤ lim then some (ps.all (·.1), .list (ps.map (·.2))) else none
theorem lc_readP {fI : Ev → Option (Bool × List D)} {P : L2.St → Hp → Prop} {elt : E} {t : T} {ifs : Eo} {own : List Nat} {σ : L2.St} {H : Hp} {Q : VK} (h : ∃ ρ φ b d, EnvR X.K H σ ρ φ ∧ lcVF cal fI elt t ifs own ρ = some (b, d) ∧ P σ H ∧ ∀ v H' g, Got X.K H H' φ b v d g → Q v H') :
    tLc (tIP X.K fI P) (tG X.K own t) (tT X.K (evt cal ifs)) (tQ X.K (ev cal elt false)) own σ H Q := by
  obtain ⟨ρ, φ, bb, d, R, e, hP, q⟩ := h
  simp only [lcVF] at e
  split at e
  · cases e
  rename_i b1 xs e1
  split at e
  · cases e
  rename_i ps e2
  split at e
  · rename_i hl
    simp only [Option.some.injEq, Prod.mk.injEq] at e
    obtain ⟨rfl, rfl⟩ := e
    refine ⟨ρ, φ, b1, xs, R, e1, hP, fun J H1 gw s1 wk fr al tr D hD => ?_⟩
    have tr1 : ∀ f ∈ φ, ∀ a ∈ f, H1 a ≠ none := (R.same s1).tr
    refine ⟨fun i m H' => m = xs.length - i ∧ i ≤ xs.length ∧ ∃ done rest, done ++ rest = ps ∧ done.length ≤ i ∧ lcD (fun d ρ => setT t false d ρ) (fun ρ => evt cal ifs ρ) (fun ρ => ev cal elt false ρ) (wipeE ρ own) (xs.drop i) = some rest ∧ LcS X.K H1 (gw :: φ) D done H',
      ⟨xs.length, by simp, Nat.zero_le _, [], ps, rfl, Nat.le_refl _, e2, LcS.start hD⟩, ?_⟩
    rintro i m H' ⟨rfl, hi, done, rest, hd, hdl, er, L⟩
    obtain ⟨wst, wgo⟩ := wk i H' (Stand.same L.same1)
    rcases Nat.lt_or_ge i xs.length with hlt | hge
    · have hx := List.getElem?_eq_getElem hlt
      obtain ⟨go, yl⟩ := wgo _ hx
      refine .inr ⟨go, fun H' => ∃ done rest, done ++ rest = ps ∧ done.length ≤ i + 1 ∧ lcD (fun d ρ => setT t false d ρ) (fun ρ => evt cal ifs ρ) (fun ρ => ev cal elt false ρ) (wipeE ρ own) (xs.drop (i + 1)) = some rest ∧ LcS X.K H1 (gw :: φ) D done H', fun H'' p => ⟨xs.length - (i + 1), by omega, rfl, hlt, p⟩, fun x H2 y => ?_⟩
      obtain ⟨g', s2, r2, hg'⟩ := yl x H2 y
      have L2' := L.step s2
      rw [drop_get hx] at er
      simp only [lcD] at er
      split at er
      · cases er
      rename_i ρ' est
      have R2 : EnvR X.K H2 (wipe σ own) (wipeE ρ own) φ := (R.same (s1.trans (L2'.same1))).wipe own
      refine ⟨wipeE ρ own, φ, false, _, g', ρ', R2, r2, est, fun σ' φ' S => ⟨?_, ?_⟩⟩
      · rw [S.out]
        exact wipe_wipe own σ
      · have tS := set_trk S hg' tr tr1
        split at er
        · rename_i b2 et
          refine ⟨ρ', φ', b2, true, S.env, et, fun H3 s3 => ?_⟩
          show ite (true = true) _ _
          rw [if_pos rfl]
          split at er
          · cases er
          rename_i y2 ee
          obtain ⟨yb, yd⟩ := y2
          obtain ⟨rest', er', rfl⟩ := Option.map_eq_some_iff.mp er
          refine ⟨ρ', φ', yb, yd, S.env.same s3, ee, fun w H4 gy G => ?_⟩
          have hlen : done.length < sizeLine := by rw [sizeLine_eq]; have : xs.length ≤ 16777216 := hl; omega
          obtain ⟨acc, a1, a2, a3⟩ := (L2'.step s3).put hD G tS hlen
          exact ⟨acc, a1, a2, done ++ [(yb, yd)], rest', by rw [← hd]; simp, by simp; omega, er', a3⟩
        · rename_i b2 et
          refine ⟨ρ', φ', b2, false, S.env, et, fun H3 s3 => ?_⟩
          show ite (false = true) _ _
          rw [if_neg Bool.false_ne_true]
          exact ⟨done, rest, hd, by omega, er, L2'.step s3⟩
        · cases er
    · have he : i = xs.length := by omega
      subst he
      rw [List.drop_length] at er
      simp only [lcD, Option.some.injEq] at er
      subst er
      rw [List.append_nil] at hd
      subst hd
      obtain ⟨g, G⟩ := L.got hD s1 al
      exact .inl ⟨wst rfl, q _ _ g G⟩
  · cases e
/-- the reading of a list comprehension -/
theorem lc_read {elt : E} {t : T} {src : I} {ifs : Eo} {own : List Nat} {σ : L2.St} {H : Hp} {Q : VK} (h : tQ X.K (ev cal (.lc elt t src ifs own) false) σ H Q) :
    tLc (tI X.K (evi cal src)) (tG X.K own t) (tT X.K (evt cal ifs)) (tQ X.K (ev cal elt false)) own σ H Q := by
  obtain ⟨ρ, φ, bb, d, R, e, q⟩ := h
  simp only [ev, fin, Bool.false_eq_true, if_false] at e
  obtain ⟨ρ', φ', b', ds', R', e', _, q'⟩ := lc_readP (cal := cal) (fI := evi cal src) (P := fun _ _ => True) (elt := elt) (t := t) (ifs := ifs) (own := own) (Q := Q) ⟨ρ, φ, bb, d, R, e, trivial, q⟩
  exact ⟨ρ', φ', b', ds', R', e', q'⟩
theorem fzs_get {xs : List D} {i : Nat} {d : D} : fzs xs = true → xs[i]? = some d → fz d = true := by
  induction xs generalizing i with
  | nil => intro _ e; cases e
  | cons x r ih =>
    intro h e
    simp only [fzs, Bool.and_eq_true] at h
    cases i with
    | zero => simp at e; subst e; exact h.1
    | succ i => exact ih h.2 e
/-- the reading of one with two clauses -/
theorem lc2_read {elt : E} {t t1 : T} {src src1 : I} {own own1 : List Nat} {σ : L2.St} {H : Hp} {Q : VK} (h : tQ X.K (ev cal (.lc2 elt t src t1 src1 own own1) false) σ H Q) :
    tLc2 (tI X.K (evi cal src)) (tG X.K own t) (tT X.K (evt cal .no)) (tI X.K (evi cal src1)) (tG X.K own1 t1) (tT X.K (evt cal .no)) (tQ X.K (ev cal elt false)) own own1 σ H Q := by
  obtain ⟨ρ, φ, bb, d, R, e, q⟩ := h
  simp only [ev, fin, Bool.false_eq_true, if_false] at e
  split at e
  · cases e
  rename_i b1 xs e1
  split at e
  · cases e
  rename_i ps e2
  split at e
  · rename_i hl
    simp only [Option.some.injEq, Prod.mk.injEq] at e
    obtain ⟨rfl, rfl⟩ := e
    refine ⟨ρ, φ, b1, xs, R, e1, fun J H1 gw s1 wk fr al tr D hD => ?_⟩
    have tr1 : ∀ f ∈ φ, ∀ a ∈ f, H1 a ≠ none := (R.same s1).tr
    refine ⟨fun i m H' => m = xs.length - i ∧ i ≤ xs.length ∧ ∃ done rest, done ++ rest = ps ∧ lc2D (fun d ρ => setT t false d ρ) (fun ρ => evi cal src1 ρ) (fun d ρ => setT t1 false d ρ) (fun ρ => ev cal elt false ρ) (fun ρ => wipeE ρ own1) (wipeE ρ own) (xs.drop i) = some rest ∧ LcS X.K H1 (gw :: φ) D done H',
      ⟨xs.length, by simp, Nat.zero_le _, [], ps, rfl, e2, LcS.start hD⟩, ?_⟩
    rintro i m H' ⟨rfl, hi, done, rest, hd, er, L⟩
    obtain ⟨wst, wgo⟩ := wk i H' (Stand.same L.same1)
    rcases Nat.lt_or_ge i xs.length with hlt | hge
    · have hx := List.getElem?_eq_getElem hlt
      obtain ⟨go, yl⟩ := wgo _ hx
      refine .inr ⟨go, fun H' => ∃ done rest, done ++ rest = ps ∧ lc2D (fun d ρ => setT t false d ρ) (fun ρ => evi cal src1 ρ) (fun d ρ => setT t1 false d ρ) (fun ρ => ev cal elt false ρ) (fun ρ => wipeE ρ own1) (wipeE ρ own) (xs.drop (i + 1)) = some rest ∧ LcS X.K H1 (gw :: φ) D done H', fun H'' p => ⟨xs.length - (i + 1), by omega, rfl, hlt, p⟩, fun x H2 y => ?_⟩
      obtain ⟨g', s2, r2, hg'⟩ := yl x H2 y
      have L2' := L.step s2
      rw [drop_get hx] at er
      simp only [lc2D] at er
      split at er
      · cases er
      rename_i ρ' est
      have R2 : EnvR X.K H2 (wipe σ own) (wipeE ρ own) φ := (R.same (s1.trans (L2'.same1))).wipe own
      refine ⟨wipeE ρ own, φ, false, _, g', ρ', R2, r2, est, fun σ' φ' S => ⟨?_, ?_⟩⟩
      · rw [S.out]
        exact wipe_wipe own σ
      · have tS := set_trk S hg' tr tr1
        refine ⟨ρ', φ', true, true, S.env, rfl, fun H3 s3 => ?_⟩
        show ite (true = true) _ _
        rw [if_pos rfl]
        split at er
        · cases er
        rename_i bi ys ei
        split at er
        · rename_i hfz
          split at er
          · cases er
          rename_i as ea
          obtain ⟨rest', er', rfl⟩ := Option.map_eq_some_iff.mp er
          refine ⟨ρ', φ', bi, ys, S.env.same s3, ei, fun J1 H4 gw1 s4 wk1 fr1 al1 tr4 => ?_⟩
          have L4 := (L2'.step s3).step s4
          refine ⟨fun j k H' => k = ys.length - j ∧ j ≤ ys.length ∧ ∃ dn rs, dn ++ rs = as ∧ lcD (fun d ρ => setT t1 false d ρ) (fun _ => some (true, .bool true)) (fun ρ => ev cal elt false ρ) (wipeE ρ' own1) (ys.drop j) = some rs ∧ Stand (gw1 ++ φ'.flatten) H4 H' ∧ LcS X.K H1 (gw :: φ) D (done ++ dn) H' , ⟨ys.length, by simp, Nat.zero_le _, [], as, rfl, ea, Stand.refl, by rw [List.append_nil]; exact L4⟩, ?_⟩
          rintro j k H5 ⟨rfl, hj, dn, rs, hdn, ers, s45, L5⟩
          obtain ⟨w1st, w1go⟩ := wk1 j H5 (s45.sub fun a m => List.mem_append_left _ m)
          rcases Nat.lt_or_ge j ys.length with hlt1 | hge1
          · have hy := List.getElem?_eq_getElem hlt1
            obtain ⟨go1, yl1⟩ := w1go _ hy
            refine .inr ⟨go1, fun H' => ∃ dn rs, dn ++ rs = as ∧ lcD (fun d ρ => setT t1 false d ρ) (fun _ => some (true, .bool true)) (fun ρ => ev cal elt false ρ) (wipeE ρ' own1) (ys.drop (j + 1)) = some rs ∧ Stand (gw1 ++ φ'.flatten) H4 H' ∧ LcS X.K H1 (gw :: φ) D (done ++ dn) H', fun H'' p => ⟨ys.length - (j + 1), by omega, rfl, hlt1, p⟩, fun x H6 y => ?_⟩
            obtain ⟨g3, s6, r6, hg3⟩ := yl1 x H6 y
            have r6' := (r6.fz (fzs_get hfz hy)).2 false
            rw [drop_get hy] at ers
            simp only [lcD] at ers
            split at ers
            · cases ers
            rename_i ρ'' est1
            have R6 : EnvR X.K H6 (wipe σ' own1) (wipeE ρ' own1) φ' := (((S.env.same (s3.trans s4)).stand s45 fun f hf a m => List.mem_append_right _ (List.mem_flatten.mpr ⟨f, hf, m⟩)).same s6).wipe own1
            refine ⟨wipeE ρ' own1, φ', false, _, [], ρ'', R6, r6', est1, fun σ3 φ3 S3 => ⟨by rw [S3.out]; exact wipe_wipe own1 σ', ρ'', φ3, true, true, S3.env, rfl, fun H7 s7 => ?_⟩⟩
            show ite (true = true) _ _
            rw [if_pos rfl]
            split at ers
            · cases ers
            rename_i y2 ee
            obtain ⟨yb, yd⟩ := y2
            obtain ⟨rs', ers', rfl⟩ := Option.map_eq_some_iff.mp ers
            refine ⟨ρ'', φ3, yb, yd, S3.env.same s7, ee, fun w H8 gy G => ?_⟩
            have tS3 : ∀ f ∈ φ3, ∀ a ∈ f, H1 a ≠ none ∧ ∃ f0 ∈ gw :: φ, a ∈ f0 := fun f hf a m => by
              rcases S3.all f hf a m with ⟨f0, z1, z2⟩ | z
              · exact tS f0 z1 a z2
              · cases z
            have hlen : (done ++ dn).length < sizeLine := by
              have h1 : ps.length ≤ 16777216 := hl
              have h2 : ps.length = done.length + (as.length + rest'.length) := by rw [← hd]; simp
              have h3 : as.length = dn.length + (rs'.length + 1) := by rw [← hdn]; simp
              rw [sizeLine_eq, List.length_append]; omega
            obtain ⟨acc, a1, a2, a3⟩ := (L5.step (s6.trans s7)).put hD G tS3 hlen
            have s78 : Same H5 H8 := s6.trans (s7.trans G.same)
            have hDn : ∀ a ∈ gw1 ++ φ'.flatten, a ≠ D := fun a m z => by
              subst z
              have tD : ∀ f ∈ φ', a ∉ f := fun f hf w => (tS f hf a w).1 hD
              rcases List.mem_append.mp m with w | w
              · rcases al1 a w with y | ⟨f, hf, y⟩
                · obtain ⟨_, _, y2, _⟩ := L2'.step s3
                  rw [y2] at y; cases y
                · exact tD f hf y
              · obtain ⟨f, hf, y⟩ := List.mem_flatten.mp w
                exact tD f hf y
            have k8 : Stand (gw1 ++ φ'.flatten) H4 (upd H8 D (.lst (acc ++ [w]))) := by
              refine ⟨fun b o eb => ?_, fun b o xs eb => ?_, fun b m o eb => ?_, fun P h => ?_⟩
              · have e8 := s78 b _ (s45.tup b o eb)
                rw [upd_ne (fun z => by rw [z, a1] at e8; cases e8)]; exact e8
              · have e8 := s78 b _ (s45.frz b o xs eb)
                rw [upd_ne (fun z => by rw [z, a1] at e8; cases e8)]; exact e8
              · rw [upd_ne (hDn b m)]; exact (s45.at_ b m o eb).trans fun o' e' => s78 b o' e'
              · obtain ⟨qs, e8, ok⟩ := s78.tab P (s45.tb P h)
                exact ⟨qs, by rw [upd_ne (fun z => by rw [z, a1] at e8; cases e8)]; exact e8, ok⟩
            exact ⟨acc, a1, a2, dn ++ [(yb, yd)], rs', by rw [← hdn]; simp, ers', k8, by rw [← List.append_assoc]; exact a3⟩
          · have hj' : j = ys.length := by omega
            subst hj'
            rw [List.drop_length] at ers
            simp only [lcD, Option.some.injEq] at ers
            subst ers
            rw [List.append_nil] at hdn
            subst hdn
            exact .inl ⟨w1st rfl, done ++ dn, rest', by rw [← hd]; simp, er', L5⟩
        · cases er
    · have he : i = xs.length := by omega
      subst he
      rw [List.drop_length] at er
      simp only [lc2D, Option.some.injEq] at er
      subst er
      rw [List.append_nil] at hd
      subst hd
      obtain ⟨g, G⟩ := L.got hD s1 al
      exact .inl ⟨wst rfl, q _ _ g G⟩
  · cases e
end
end Den

set_option Elab.async false
set_option linter.all false
set_option maxRecDepth 100000
/-! DenJ: dict comprehensions, displays of dicts; the rules of comprehensions. -/
namespace Den
open PySem PySem.Spec PyProof.Rows L2 RZ

section
variable {κ : Type} [DecidableEq κ] {enc : κ → D}
theorem any_enc (he : ∀ k k', PyData.eqv (enc k) (enc k') = decide (k = k')) (k : κ) : ∀ {kvs : List (κ × V)} {ds : List (D × D)}, kvs.map (fun p => enc p.1) = ds.map (·.1) → (ds.any fun p => PyData.eqv p.1 (enc k)) = kvs.any fun p => decide (p.1 = k)
  | [], [], _ => rfl
  | [], _ :: _, e => by simp at e
  | _ :: _, [], e => by simp at e
  | (k1, v1) :: r, (d1, x1) :: t, e => by
    simp only [List.map_cons, List.cons.injEq] at e
    obtain ⟨e1, e2⟩ := e
    subst e1
    simp only [List.any_cons, he, any_enc he k e2]
theorem get_enc (he : ∀ k k', PyData.eqv (enc k) (enc k') = decide (k = k')) (k : κ) : ∀ {kvs : List (κ × V)} {ds : List (D × D)}, kvs.map (fun p => enc p.1) = ds.map (·.1) → (dGet ds (enc k)).isNone = true → valV kvs k = none
  | [], [], _, _ => rfl
  | [], _ :: _, e, _ => by simp at e
  | _ :: _, [], e, _ => by simp at e
  | (k1, v1) :: r, (d1, x1) :: t, e, h => by
    simp only [List.map_cons, List.cons.injEq] at e
    obtain ⟨e1, e2⟩ := e
    subst e1
    by_cases hk : k1 = k
    · subst hk
      simp [dGet, List.find?_cons, he] at h
    · have hne : PyData.eqv (enc k1) (enc k) = false := by rw [he]; simp [hk]
      simp only [dGet, List.find?_cons, hne] at h
      rw [valV_neg hk]
      exact get_enc he k e2 h
theorem put_fz {K : PySem.W.Frag} {H : Hp} {b : Bool} (he : ∀ k k', PyData.eqv (enc k) (enc k') = decide (k = k')) (k : κ) {v : V} {d : D} (r0 : Rep K H b v d []) : ∀ {kvs : List (κ × V)} {ds : List (D × D)} {fs : List Addr}, kvs.map (fun p => enc p.1) = ds.map (·.1) → Reps K H b (kvs.map (·.2)) (ds.map (·.2)) fs →
    ∃ fs', (kvs.map fun p => if p.1 = k then (p.1, v) else p).map (fun p => enc p.1) = (ds.map fun p => if PyData.eqv p.1 (enc k) then (p.1, d) else p).map (·.1) ∧ Reps K H b ((kvs.map fun p => if p.1 = k then (p.1, v) else p).map (·.2)) ((ds.map fun p => if PyData.eqv p.1 (enc k) then (p.1, d) else p).map (·.2)) fs' ∧ List.Sublist fs' fs
  | [], [], _, _, .nil => ⟨[], rfl, .nil, List.nil_sublist _⟩
  | [], _ :: _, _, e, _ => by simp at e
  | _ :: _, [], _, e, _ => by simp at e
  | (k1, v1) :: r, (d1, x1) :: t, fs, e, h => by
    simp only [List.map_cons, List.cons.injEq] at e
    obtain ⟨e1, e2⟩ := e
    subst e1
    cases h with
    | @cons _ _ _ _ f fs h1 h2 =>
      obtain ⟨fs', q1, q2, q3⟩ := put_fz he k r0 e2 h2
      by_cases hk : k1 = k
      · subst hk
        refine ⟨[] ++ fs', ?_, ?_, q3.trans (List.sublist_append_right _ _)⟩
        · simp only [List.map_cons, he, decide_true, if_true]
          rw [q1]
        · simp only [List.map_cons, he, decide_true, if_true]
          exact .cons r0 q2
      · have hne : PyData.eqv (enc k1) (enc k) = false := by rw [he]; simp [hk]
        refine ⟨f ++ fs', ?_, ?_, List.Sublist.append (List.Sublist.refl _) q3⟩
        · simp only [List.map_cons, hne, if_neg hk, Bool.false_eq_true, if_false]
          rw [q1]
        · simp only [List.map_cons, hne, if_neg hk, Bool.false_eq_true, if_false]
          exact .cons h1 q2
/-- an entry put -/
theorem put_enc {K : PySem.W.Frag} {H : Hp} {b : Bool} (he : ∀ k k', PyData.eqv (enc k) (enc k') = decide (k = k')) (k : κ) {v : V} {d : D} {g : List Addr} (r0 : Rep K H b v d g) {kvs : List (κ × V)} {ds : List (D × D)} {fs : List Addr} (e : kvs.map (fun p => enc p.1) = ds.map (·.1)) (h : Reps K H b (kvs.map (·.2)) (ds.map (·.2)) fs) (ok : (fz d || (dGet ds (enc k)).isNone) = true) :
    ∃ fs', (putK kvs k v).map (fun p => enc p.1) = (dPut ds (enc k) d).map (·.1) ∧ Reps K H b ((putK kvs k v).map (·.2)) ((dPut ds (enc k) d).map (·.2)) fs' ∧ (fs'.Sublist fs ∨ fs' = fs ++ g) := by
  unfold putK dPut
  rw [any_enc he k e]
  by_cases ha : (kvs.any fun p => decide (p.1 = k)) = true
  · rw [if_pos ha, if_pos ha]
    rw [Bool.or_eq_true] at ok
    rcases ok with z | z
    · obtain ⟨fs', q1, q2, q3⟩ := put_fz he k ((r0.fz z).2 b) e h
      exact ⟨fs', q1, q2, .inl q3⟩
    · have := get_enc he k e z
      rw [valV_any, this] at ha; cases ha
  · rw [if_neg ha, if_neg ha]
    refine ⟨fs ++ g, ?_, ?_, .inr rfl⟩
    · rw [List.map_append, List.map_append, e]; rfl
    · rw [List.map_append, List.map_append]
      exact h.append (Reps.one r0)
end

/-- a dict in the making -/
def DcS (K : PySem.W.Frag) (H1 : Hp) (ψ : List (List Addr)) (Da : Addr) (f : Bool) (acc : List (D × D)) (H : Hp) : Prop := ∃ kvs fs, H Da = some (.dK kvs) ∧ Same H1 H ∧ kvs.map (fun p => kD p.1) = acc.map (·.1) ∧ Reps K H f (kvs.map (·.2)) (acc.map (·.2)) fs ∧
  (f = true → fs.Nodup ∧ ∀ a ∈ fs, H1 a = none) ∧ (∀ a ∈ fs, H1 a = none ∨ ∃ f0 ∈ ψ, a ∈ f0) ∧ Da ∉ fs
section
variable {K : PySem.W.Frag} {H1 H H' H3 H4 : Hp} {φ ψ : List (List Addr)} {Da : Addr} {f : Bool} {acc : List (D × D)}
theorem DcS.start (hD : H1 Da = none) : DcS K H1 ψ Da true [] (upd H1 Da (.dK [])) := ⟨[], [], upd_same, same_new hD, rfl, .nil, fun _ => ⟨List.nodup_nil, fun a m => nomatch m⟩, (fun a m => nomatch m), fun m => nomatch m⟩
theorem DcS.step (h : DcS K H1 ψ Da f acc H) (s : Same H H') : DcS K H1 ψ Da f acc H' := let ⟨kvs, fs, a1, a2, a3, a4, a5, a6, a7⟩ := h; ⟨kvs, fs, s _ _ a1, a2.trans s, a3, a4.same s, a5, a6, a7⟩
theorem DcS.same1 (h : DcS K H1 ψ Da f acc H) : Same H1 H := let ⟨_, _, _, a2, _⟩ := h; a2
theorem DcS.put {b : Bool} {v y : V} {d kd : D} {g gk : List Addr} {p : Bool} (h : DcS K H1 ψ Da f acc H3) (hD : H1 Da = none) (n : Got K H3 H4 φ b v d g) (hφ : ∀ f ∈ φ, ∀ a ∈ f, H1 a ≠ none ∧ ∃ f0 ∈ ψ, a ∈ f0) (hk : Rep K H4 p y kd gk) (ok : putOk acc kd d = true) (hl : acc.length < sizeLine) :
    ∃ kvs k, y = kV k ∧ H4 Da = some (.dK kvs) ∧ kvs.length < sizeLine ∧ DcS K H1 ψ Da (f && b) (dPut acc kd d) (upd H4 Da (.dK (putK kvs k v))) := by
  obtain ⟨kvs, fs, a1, a2, a3, a4, a5, a6, a7⟩ := h
  have t : tk acc = false := tk_kD (κ := kvs.map (·.1)) (by rw [List.map_map]; exact a3)
  unfold putOk keyFor at ok
  rw [t] at ok
  simp only [Bool.false_eq_true, if_false, Bool.and_eq_true] at ok
  obtain ⟨k, rfl, rfl⟩ := hk.key ok.1
  have hlen : kvs.length = acc.length := by have := congrArg List.length a3; simpa using this
  have e4 := n.same _ _ a1
  have r4 : Reps K H4 (f && b) (kvs.map (·.2)) (acc.map (·.2)) fs := by
    have := a4.same n.same
    cases f <;> cases b <;> first | exact this | exact this.sh
  have rn : Rep K H4 (f && b) v d g := by
    cases f <;> cases b <;> first | exact n.rep | exact n.rep.sh
  obtain ⟨fs', q1, q2, q3⟩ := put_enc eqv_kD k rn a3 r4 ok.2
  have gD : Da ∉ g := fun m => by
    rcases n.al _ m with z | ⟨f0, hf, z⟩
    · rw [z] at a1; cases a1
    · exact (hφ f0 hf _ z).1 hD
  have sub : ∀ a ∈ fs', a ∈ fs ∨ a ∈ g := fun a m => by
    rcases q3 with z | z
    · exact .inl (z.subset m)
    · rw [z] at m; exact List.mem_append.mp m
  have tr3 := a4.trk
  have hDn : Da ∉ fs' := fun m => (sub _ m).elim a7 gD
  refine ⟨kvs, k, rfl, e4, by rw [hlen]; exact hl, putK kvs k v, fs', upd_same, fun a o ea => ?_, q1, ?_, fun z => ?_, fun a m => ?_, hDn⟩
  · rw [upd_ne (fun z => by rw [z, hD] at ea; cases ea)]; exact (a2 a o ea).trans fun o' e' => n.same a o' e'
  · refine q2.keep (fun a xs ea => ?_) (fun a o xs ea => ?_) fun a m o ea => ?_
    · rw [upd_ne (fun z => by rw [z, e4] at ea; cases ea)]; exact ea
    · rw [upd_ne (fun z => by rw [z, e4] at ea; cases ea)]; exact ea
    · rw [upd_ne (fun z => hDn (by rw [← z]; exact m))]; exact .of ea
  · rw [Bool.and_eq_true] at z
    obtain ⟨n1, n2⟩ := a5 z.1
    obtain ⟨m1, m2⟩ := n.fr z.2
    have fr : ∀ a ∈ fs', H1 a = none := fun a m => (sub a m).elim (n2 a) fun w => a2.free (m2 a w)
    refine ⟨?_, fr⟩
    rcases q3 with w | w
    · exact w.nodup n1
    · rw [w, List.nodup_append]
      exact ⟨n1, m1, fun a ha c hc e => tr3 a ha (e ▸ m2 c hc)⟩
  · rcases sub a m with w | w
    · exact a6 a w
    · rcases n.al a w with z | ⟨f0, hf, z⟩
      · exact .inl (a2.free z)
      · exact .inr (hφ f0 hf a z).2
end
theorem dPut_len (kvs : List (D × D)) (k v : D) : (dPut kvs k v).length ≤ kvs.length + 1 := by
  unfold dPut
  split <;> simp
section
variable {X : Cx} {cal : Nat → List (Bool × D) → Option (Bool × D)}
theorem dc_read {key val : E} {t : T} {src : I} {ifs : Eo} {own : List Nat} {σ : L2.St} {H : Hp} {Q : VK} (h : tQ X.K (ev cal (.dc false key val t src ifs own) false) σ H Q) :
    tDc (tI X.K (evi cal src)) (tG X.K own t) (tT X.K (evt cal ifs)) (tQ X.K (ev cal key false)) (tQ X.K (ev cal val false)) own σ H Q := by
  obtain ⟨ρ, φ, bb, d, R, e, q⟩ := h
  simp only [ev, fin, Bool.false_eq_true, if_false] at e
  split at e
  · cases e
  rename_i b1 xs e1
  split at e
  · cases e
  rename_i f kvs e2
  split at e
  · rename_i hl
    simp only [Option.some.injEq, Prod.mk.injEq] at e
    obtain ⟨rfl, rfl⟩ := e
    refine ⟨ρ, φ, b1, xs, R, e1, fun J H1 gw s1 wk fr al tr Da hD => ?_⟩
    have tr1 : ∀ f ∈ φ, ∀ a ∈ f, H1 a ≠ none := (R.same s1).tr
    refine ⟨fun i m H' => m = xs.length - i ∧ i ≤ xs.length ∧ ∃ f0 acc, acc.length ≤ i ∧ dcD (fun d ρ => setT t false d ρ) (fun ρ => evt cal ifs ρ) (fun ρ => ev cal key false ρ) (fun ρ => ev cal val false ρ) (wipeE ρ own) (xs.drop i) f0 acc = some (f, kvs) ∧ DcS X.K H1 (gw :: φ) Da f0 acc H',
      ⟨xs.length, by simp, Nat.zero_le _, true, [], Nat.le_refl _, e2, DcS.start hD⟩, ?_⟩
    rintro i m H' ⟨rfl, hi, f0, acc, hdl, er, L⟩
    obtain ⟨wst, wgo⟩ := wk i H' (Stand.same L.same1)
    rcases Nat.lt_or_ge i xs.length with hlt | hge
    · have hx := List.getElem?_eq_getElem hlt
      obtain ⟨go, yl⟩ := wgo _ hx
      refine .inr ⟨go, fun H' => ∃ f0 acc, acc.length ≤ i + 1 ∧ dcD (fun d ρ => setT t false d ρ) (fun ρ => evt cal ifs ρ) (fun ρ => ev cal key false ρ) (fun ρ => ev cal val false ρ) (wipeE ρ own) (xs.drop (i + 1)) f0 acc = some (f, kvs) ∧ DcS X.K H1 (gw :: φ) Da f0 acc H', fun H'' p => ⟨xs.length - (i + 1), by omega, rfl, hlt, p⟩, fun x H2 y => ?_⟩
      obtain ⟨g', s2, r2, hg'⟩ := yl x H2 y
      have L2' := L.step s2
      rw [drop_get hx] at er
      simp only [dcD] at er
      split at er
      · cases er
      rename_i ρ' est
      have R2 : EnvR X.K H2 (wipe σ own) (wipeE ρ own) φ := (R.same (s1.trans (L2'.same1))).wipe own
      refine ⟨wipeE ρ own, φ, false, _, g', ρ', R2, r2, est, fun σ' φ' S => ⟨by rw [S.out]; exact wipe_wipe own σ, ?_⟩⟩
      have tS := set_trk S hg' tr tr1
      split at er
      · rename_i b2 et
        refine ⟨ρ', φ', b2, true, S.env, et, fun H3 s3 => ?_⟩
        show ite (true = true) _ _
        rw [if_pos rfl]
        split at er
        · cases er
        rename_i kb kd ek
        split at er
        · cases er
        rename_i vb vd ev0
        split at er
        · rename_i hok
          refine ⟨ρ', φ', kb, kd, S.env.same s3, ek, fun w H4 gk Gk => ⟨ρ', φ', vb, vd, S.env.same (s3.trans Gk.same), ev0, fun z H5 gz Gz => ?_⟩⟩
          have hlen : acc.length < sizeLine := by rw [sizeLine_eq]; have : xs.length ≤ 16777216 := hl; omega
          obtain ⟨kvs', k, a1, a2, a3, a4⟩ := ((L2'.step s3).step Gk.same).put hD Gz tS (Gk.rep.same Gz.same) hok hlen
          exact ⟨kvs', k, a1, a2, a3, f0 && vb, dPut acc kd vd, by have := dPut_len acc kd vd; omega, er, a4⟩
        · cases er
      · rename_i b2 et
        refine ⟨ρ', φ', b2, false, S.env, et, fun H3 s3 => ?_⟩
        show ite (false = true) _ _
        rw [if_neg Bool.false_ne_true]
        exact ⟨f0, acc, by omega, er, L2'.step s3⟩
      · cases er
    · have he : i = xs.length := by omega
      subst he
      rw [List.drop_length] at er
      simp only [dcD, Option.some.injEq, Prod.mk.injEq] at er
      obtain ⟨rfl, rfl⟩ := er
      obtain ⟨ks, fs, a1, a2, a3, a4, a5, a6, a7⟩ := L
      refine .inl ⟨wst rfl, q _ _ (Da :: fs) ⟨s1.trans a2, ?_, fun z => ⟨List.nodup_cons.mpr ⟨a7, (a5 z).1⟩, fun a m => ?_⟩, fun a m => ?_⟩⟩
      · exact .dic (by cases f0 <;> first | exact a1 | exact .inl a1) a3 a4
      · rcases List.mem_cons.mp m with w | w
        · subst w; exact s1.free hD
        · exact s1.free ((a5 z).2 a w)
      · rcases List.mem_cons.mp m with w | w
        · subst w; exact .inl (s1.free hD)
        · rcases a6 a w with y | ⟨k, hk, y⟩
          · exact .inl (s1.free y)
          · rcases List.mem_cons.mp hk with z | z
            · subst z; exact al a y
            · exact .inr ⟨k, z, y⟩
  · cases e
def noSet : Expr → Bool
  | .Set _ _ _ => false
  | _ => true
theorem folded_of {iter : Expr} {env : Env} (h : noSet iter = true) (x : Value) : foldedSetIterable iter env x = pure x := by
  cases iter <;> first | rfl | exact absurd h (by simp [noSet])
variable {elt elt2 tg iter tg1 iter1 : Expr} {ifs : List Expr} {scope : Scope} {own : List (Str × Nat)} {pos : Pos} {eE eE2 : E} {t t1 : T} {src src1 : I} {eifs : Eo} {vs1 : List Nat}
theorem Q_lc (hc : X.calm = true) (hN : X.N.Nodup) (hi : QI X tg iter (evi cal src)) (ok : BlkOk X.N X.env.scope scope own)
    (hg : ∀ (s : Shared) (H : Hp) (C : Addr) (cl : List (Str × Addr)) (fp : List Addr), QG (X.blk s H scope (compEnvC scope cl C X.env) fp) tg (own.map (·.2)) t) (ht : ∀ (s : Shared) (H : Hp) (C : Addr) (cl : List (Str × Addr)) (fp : List Addr), QTs (X.blk s H scope (compEnvC scope cl C X.env) fp) ifs (evt cal eifs))
    (he : ∀ (s : Shared) (H : Hp) (C : Addr) (cl : List (Str × Addr)) (fp : List Addr), QE (X.blk s H scope (compEnvC scope cl C X.env) fp) elt (ev cal eE false)) (hs : noSet iter = true) : QE X (.ListComp elt [⟨tg, iter, ifs, 0⟩] scope pos) (ev cal (.lc eE t src eifs (own.map (·.2))) false) :=
  pe_imp (pe_lc (wi := tI X.K (evi cal src)) (g := tG X.K (own.map fun p : Str × Nat => p.2) t) (tt := tT X.K (evt cal eifs)) (te := tQ X.K (ev cal eE false)) hc hN hi ok hg ht he (folded_of hs)) fun σ H Q h => lc_read h
theorem Q_lc2 (hc : X.calm = true) (hN : X.N.Nodup) (hi : QI X tg iter (evi cal src)) (ok : BlkOk X.N X.env.scope scope own) (hv : ∀ i ∈ vs1, i ∈ own.map (·.2))
    (hg : ∀ (s : Shared) (H : Hp) (C : Addr) (cl : List (Str × Addr)) (fp : List Addr), QG (X.blk s H scope (compEnvC scope cl C X.env) fp) tg (own.map (·.2)) t)
    (hi1 : ∀ (s : Shared) (H : Hp) (C : Addr) (cl : List (Str × Addr)) (fp : List Addr), QI (X.blk s H scope (compEnvC scope cl C X.env) fp) tg1 iter1 (evi cal src1))
    (hg1 : ∀ (s : Shared) (H : Hp) (C : Addr) (cl : List (Str × Addr)) (fp : List Addr), QG (X.blk s H scope (compEnvC scope cl C X.env) fp) tg1 vs1 t1)
    (he : ∀ (s : Shared) (H : Hp) (C : Addr) (cl : List (Str × Addr)) (fp : List Addr), QE (X.blk s H scope (compEnvC scope cl C X.env) fp) elt (ev cal eE false)) (hs : noSet iter = true) (hs1 : noSet iter1 = true) :
    QE X (.ListComp elt [⟨tg, iter, [], 0⟩, ⟨tg1, iter1, [], 0⟩] scope pos) (ev cal (.lc2 eE t src t1 src1 (own.map (·.2)) vs1) false) :=
  pe_imp (pe_lc2 (wi := tI X.K (evi cal src)) (g := tG X.K (own.map fun p : Str × Nat => p.2) t) (tt := tT X.K (evt cal .no)) (wi1 := tI X.K (evi cal src1)) (g1 := tG X.K vs1 t1) (tt1 := tT X.K (evt cal .no)) (te := tQ X.K (ev cal eE false)) hc hN hi ok hv hg (fun s H C cl fp => QTs_no (X := X.blk s H scope (compEnvC scope cl C X.env) fp) (cal := cal)) hi1 hg1 (fun s H C cl fp => QTs_no (X := X.blk s H scope (compEnvC scope cl C X.env) fp) (cal := cal)) he (folded_of hs) (fun _ => folded_of hs1)) fun σ H Q h => lc2_read h
theorem Q_dc (hc : X.calm = true) (hN : X.N.Nodup) (hi : QI X tg iter (evi cal src)) (ok : BlkOk X.N X.env.scope scope own)
    (hg : ∀ (s : Shared) (H : Hp) (C : Addr) (cl : List (Str × Addr)) (fp : List Addr), QG (X.blk s H scope (compEnvC scope cl C X.env) fp) tg (own.map (·.2)) t) (ht : ∀ (s : Shared) (H : Hp) (C : Addr) (cl : List (Str × Addr)) (fp : List Addr), QTs (X.blk s H scope (compEnvC scope cl C X.env) fp) ifs (evt cal eifs))
    (hk : ∀ (s : Shared) (H : Hp) (C : Addr) (cl : List (Str × Addr)) (fp : List Addr), QE (X.blk s H scope (compEnvC scope cl C X.env) fp) elt2 (ev cal eE2 false))
    (he : ∀ (s : Shared) (H : Hp) (C : Addr) (cl : List (Str × Addr)) (fp : List Addr), QE (X.blk s H scope (compEnvC scope cl C X.env) fp) elt (ev cal eE false)) (hs : noSet iter = true) : QE X (.DictComp elt2 elt [⟨tg, iter, ifs, 0⟩] scope pos) (ev cal (.dc false eE2 eE t src eifs (own.map (·.2))) false) :=
  pe_imp (pe_dc (wi := tI X.K (evi cal src)) (g := tG X.K (own.map fun p : Str × Nat => p.2) t) (tt := tT X.K (evt cal eifs)) (tk := tQ X.K (ev cal eE2 false)) (tv := tQ X.K (ev cal eE false)) hc hN hi ok hg ht hk he (folded_of hs)) fun σ H Q h => dc_read h
theorem Q_d0 {b : Bool} : QE X (.Dict [] [] pos) (ev cal (.dsp b .nil .nil) false) := by
  cases b with
  | false =>
    refine pe_imp pe_dnewK fun σ H Q ⟨ρ, φ, bb, d, R, e, q⟩ => ?_
    simp only [ev, evs, fin, Bool.false_eq_true, if_false] at e
    simp at e
    obtain ⟨rfl, rfl⟩ := e
    exact fun p hp => q _ _ [p] ⟨same_new hp, .dic (b := true) (kvs := []) upd_same rfl .nil, fun _ => ⟨by simp, fun a m => by rw [List.mem_singleton.mp m]; exact hp⟩, fun a m => .inl (by rw [List.mem_singleton.mp m]; exact hp)⟩
  | true =>
    refine pe_imp pe_dnewT fun σ H Q ⟨ρ, φ, bb, d, R, e, q⟩ => ?_
    simp only [ev, evs, fin, Bool.false_eq_true, if_false] at e
    simp at e
    obtain ⟨rfl, rfl⟩ := e
    exact fun p hp => q _ _ [p] ⟨same_new hp, .dit (b := true) (kvs := []) (ds := []) upd_same rfl .nil, fun _ => ⟨by simp, fun a m => by rw [List.mem_singleton.mp m]; exact hp⟩, fun a m => .inl (by rw [List.mem_singleton.mp m]; exact hp)⟩
end
end Den

set_option Elab.async false
set_option linter.all false
set_option maxRecDepth 100000
/-! DenGx: all, any of a generator expression. -/
namespace Den
open PySem PySem.Spec PyProof.Rows L2 RZ
theorem same_tab {P : Addr} {H1 H2 : Hp} (h1 : GxR.TabG H1 P) (t : GxR.Tabbed P H1 H2) : Same H1 H2 := fun a o e => by
  by_cases ha : a = P
  · subst ha
    obtain ⟨ps, e1, k1⟩ := h1
    obtain ⟨⟨qs, e2, k2⟩, _⟩ := t
    rw [e1] at e
    cases e
    exact ⟨qs, e2, fun _ => k2⟩
  · rw [t.2 a ha]
    exact .of e
section
variable {X : Cx} {cal : Nat → List (Bool × D) → Option (Bool × D)}
theorem ga_read {al : Bool} {elt : E} {t : T} {src : I} {ifs : Eo} {own : List Nat} {σ : L2.St} {H : Hp} {Q : VK} {c P : Addr} (hP : PySem.W.codeHdIn X.K c P = true) (hn : X.K.lookup P = none) (h : tQ X.K (ev cal (.ga al elt t src ifs own) false) σ H Q) :
    GenY.tGa al P (tI X.K (evi cal src)) (tG X.K own t) (tT X.K (evt cal ifs)) (tQ X.K (ev cal elt false)) own σ H Q := by
  obtain ⟨ρ, φ, bb, d, R, e, q⟩ := h
  simp only [ev, fin, Bool.false_eq_true, if_false] at e
  split at e
  · cases e
  rename_i b1 xs e1
  cases e2 : gaD al (fun d ρ => setT t false d ρ) (fun ρ => evt cal ifs ρ) (fun ρ => ev cal elt false ρ) (wipeE ρ own) xs with
  | none => rw [e2] at e; cases e
  | some r =>
    rw [e2] at e
    cases e
    refine ⟨ρ, φ, b1, xs, R, e1, fun J H1 gw s1 wk fr al' tr => ⟨(R.tb.same s1) c P hP hn, fun H2 tb2 => ?_⟩⟩
    have s12 : Same H1 H2 := same_tab ((R.tb.same s1) c P hP hn) tb2
    refine ⟨fun i m H' => m = xs.length - i ∧ i ≤ xs.length ∧ gaD al (fun d ρ => setT t false d ρ) (fun ρ => evt cal ifs ρ) (fun ρ => ev cal elt false ρ) (wipeE ρ own) (xs.drop i) = some r ∧ Same H2 H', ⟨xs.length, by simp, Nat.zero_le _, e2, Same.refl _⟩, ?_⟩
    rintro i m H' ⟨rfl, hi, er, sH⟩
    obtain ⟨wst, wgo⟩ := wk i H' (Stand.same (s12.trans sH))
    rcases Nat.lt_or_ge i xs.length with hlt | hge
    · have hx := List.getElem?_eq_getElem hlt
      obtain ⟨go, yl⟩ := wgo _ hx
      refine .inr ⟨go, fun H' => gaD al (fun d ρ => setT t false d ρ) (fun ρ => evt cal ifs ρ) (fun ρ => ev cal elt false ρ) (wipeE ρ own) (xs.drop (i + 1)) = some r ∧ Same H2 H', fun H'' p => ⟨xs.length - (i + 1), by omega, rfl, hlt, p⟩, fun x H3 y => ?_⟩
      obtain ⟨g', s2, r2, hg'⟩ := yl x H3 y
      rw [drop_get hx] at er
      simp only [gaD] at er
      split at er
      · cases er
      rename_i ρ' est
      have R2 : EnvR X.K H3 (wipe σ own) (wipeE ρ own) φ := (R.same (s1.trans (s12.trans (sH.trans s2)))).wipe own
      refine ⟨wipeE ρ own, φ, false, _, g', ρ', R2, r2, est, fun σ' φ' S => ⟨by rw [S.out]; exact wipe_wipe own σ, ?_⟩⟩
      split at er
      · rename_i b2 et
        refine ⟨ρ', φ', b2, true, S.env, et, fun H4 s3 => ?_⟩
        show ite (true = true) _ _
        rw [if_pos rfl]
        split at er
        · rename_i yb b ee
          refine ⟨ρ', φ', yb, .bool b, S.env.same s3, ee, fun w H5 gy G => ⟨b, G.rep.bo.1, ?_⟩⟩
          split at er
          · rename_i hb
            exact .inl ⟨hb, er, (sH.trans s2).trans (s3.trans G.same)⟩
          · rename_i hb
            cases er
            exact .inr ⟨hb, q _ _ [] (Got.scalar (s1.trans (s12.trans ((sH.trans s2).trans (s3.trans G.same)))) (.bl _))⟩
        · cases er
      · rename_i b2 et
        refine ⟨ρ', φ', b2, false, S.env, et, fun H4 s3 => ?_⟩
        show ite (false = true) _ _
        rw [if_neg Bool.false_ne_true]
        exact ⟨er, (sH.trans s2).trans s3⟩
      · cases er
    · have he : i = xs.length := by omega
      subst he
      rw [List.drop_length] at er
      simp only [gaD, Option.some.injEq] at er
      subst er
      exact .inl ⟨wst rfl, q _ _ [] (Got.scalar (s1.trans (s12.trans sH)) (.bl _))⟩
end
end Den

set_option Elab.async false
set_option linter.all false
set_option maxRecDepth 100000
/-! DenMt: methods of texts. -/
namespace Den
open PySem PySem.Spec PyProof.Rows L2 RZ
section
variable {X : Cx} {cal : Nat → List (Bool × D) → Option (Bool × D)} {ea eb : E} {e0 o e : Expr} {apos cpos : Pos}
theorem q_m1 {b : Bi} {r : V → List V → Hp → VK → Prop} (h : PE X e0 (tM1 r (tQ X.K (ev cal ea false)) (tQ X.K (ev cal eb false)))) (hstr : ∀ p1 x p2 y r, biD b [(p1, x), (p2, y)] = some r → ∃ z, x = .str z)
    (hr : ∀ (H : Hp) (v w : V) (p1 : Bool) (x : D) (g1 : List Addr) (p2 : Bool) (y : D) (g2 : List Addr) (bb : Bool) (d : D) (Q : VK), Rep X.K H p1 v x g1 → Rep X.K H p2 w y g2 → biD b [(p1, x), (p2, y)] = some (bb, d) → (∀ u, Rep X.K H bb u d [] → Q u H) → r v [w] H Q) :
    QE X e0 (ev cal (.bi b (.cons ea (.cons eb .nil))) false) := by
  refine pe_imp h fun σ H Q ⟨ρ, φ, bb, d, R, e, q⟩ => ?_
  simp only [ev, fin, Bool.false_eq_true, if_false, evs] at e
  split at e
  · cases e
  rename_i ps e1
  split at e1
  · cases e1
  rename_i pq e2
  split at e1
  · cases e1
  rename_i ps2 e3
  split at e3
  · cases e3
  rename_i pq2 e4
  cases e3
  cases e1
  obtain ⟨p1, x⟩ := pq
  obtain ⟨p2, y⟩ := pq2
  obtain ⟨z, rfl⟩ := hstr _ _ _ _ _ e
  exact ⟨ρ, φ, p1, _, R, e2, fun v H1 g1 G1 => ⟨⟨z, G1.rep.s.1⟩, ρ, φ, p2, y, R.same G1.same, e4, fun w H2 g2 G2 => hr H2 v w p1 _ g1 p2 y g2 bb d Q (G1.rep.same G2.same) G2.rep e fun u ru => q u H2 [] (Got.scalar (G1.same.trans G2.same) ru)⟩⟩
def baseO : Expr → Bool
  | .Call _ _ _ _ => false
  | _ => true
theorem baseO_ok {o : Expr} (h : baseO o = true) (m : Str) : attributeBase o m X.env (eval o X.env) = eval o X.env := by
  cases o <;> first | rfl | (cases h; done)
theorem strs_rep {K : PySem.W.Frag} {H : Hp} {b : Bool} : ∀ {vs : List V} {xs : List D} {f : List Addr} {ss : List Str}, Reps K H b vs xs f → strsD xs = some ss → vs = ss.map V.str
  | _, _, _, ss, .nil, h => by cases h; rfl
  | _, _, _, ss, .cons (d := d) r rs, h => by
    cases d with
    | str z =>
      obtain ⟨ss', h1, rfl⟩ := Option.map_eq_some_iff.mp (show (strsD _).map (z :: ·) = some ss from h)
      rw [strs_rep rs h1, r.s.1]; rfl
    | _ => cases h
theorem Q_join (ho : QE X o (ev cal ea false)) (he : QE X e (ev cal eb false)) (hs : noStar e = true) (hb : baseO o = true) (hl : (apos.endLine == cpos.line) = true) : QE X (.Call (.Attribute o "join" apos) [e] [] cpos) (ev cal (.bi .join (.cons ea (.cons eb .nil))) false) := by
  refine q_m1 (pe_join ho he (star_of hs) (baseO_ok hb _) hl) (fun p1 x p2 y r h => ?_) fun H v w p1 x g1 p2 y g2 bb d Q r1 r2 h q => ?_
  · cases x <;> first | exact ⟨_, rfl⟩ | (simp [biD] at h)
  · cases x with
    | str sep =>
      have key : ∀ {ss : List Str} {xs : List D} {us : List V} {fs : List Addr} {a : Addr}, strsD xs = some ss → Reps X.K H p2 us xs fs → (SqL X.K H a us ∨ SqT X.K H a us) → ((ss.map Str.length).sum + ss.length * sep.length ≤ lim) → w = .ref a → (∀ u, Rep X.K H true u (.str (Txt.join sep ss)) [] → Q u H) →
          ∃ a p, ∃ ys : List Str, v = .str a ∧ [w] = [V.ref p] ∧ (SqL X.K H p (ys.map V.str) ∨ SqT X.K H p (ys.map V.str)) ∧ (ys.map (·.length)).sum + ys.length * a.length ≤ 16777216 ∧ Q (.str (Txt.join a ys)) H := fun {ss xs us fs a} e1 rs hq hn hw q => by
        subst hw
        rw [strs_rep rs e1] at hq
        exact ⟨sep, a, ss, r1.s.1, rfl, hq, hn, q _ (.str _)⟩
      cases y with
      | list xs =>
        obtain ⟨ss, e1, e2⟩ := Option.bind_eq_some_iff.mp (show (strsD xs).bind _ = _ from h)
        split at e2
        · rename_i hn
          cases e2
          obtain ⟨a, us, fs, hw, ha, rs, _⟩ := r2.l
          exact key e1 rs (.inl (.inl ha.rd)) hn hw q
        · cases e2
      | tuple xs =>
        obtain ⟨ss, e1, e2⟩ := Option.bind_eq_some_iff.mp (show (strsD xs).bind _ = _ from h)
        split at e2
        · rename_i hn
          cases e2
          obtain ⟨a, us, hw, ha, rs⟩ := r2.t
          exact key e1 rs (.inr (SqT.of ha)) hn hw q
        · cases e2
      | _ => simp [biD] at h
    | _ => simp [biD] at h
theorem cnt_count (c : Nat) : ∀ l : List Nat, cnt c l = (l.count c : Nat)
  | [] => rfl
  | n :: r => by
    rw [cnt_cons, cnt_count c r, List.count_cons]
    by_cases h : n = c
    · subst h; simp; omega
    · simp [h]
theorem one_of {c : Str} (h : c.length = 1) : c = ⟨#[c.cps.getD 0 0]⟩ := by
  obtain ⟨⟨l⟩⟩ := c
  have hl : l.length = 1 := h
  match l, hl with
  | [x], _ => rfl
theorem Q_count (ho : QE X o (ev cal ea false)) (he : QE X e (ev cal eb false)) (hs : noStar e = true) (hb : baseO o = true) (hl : (apos.endLine == cpos.line) = true) : QE X (.Call (.Attribute o "count" apos) [e] [] cpos) (ev cal (.bi .count (.cons ea (.cons eb .nil))) false) := by
  refine q_m1 (pe_m1 F.slot_str_count F.type_str_count mt_count ho he (star_of hs) (baseO_ok hb _) hl) (fun p1 x p2 y r h => ?_) fun H v w p1 x g1 p2 y g2 bb d Q r1 r2 h q => ?_
  · cases x <;> first | exact ⟨_, rfl⟩ | (simp [biD] at h)
  · cases x with
    | str z =>
      cases y with
      | str c =>
        simp only [biD] at h
        split at h
        · rename_i hc
          cases h
          refine ⟨z, c, r1.s.1, by rw [r2.s.1], ?_⟩
          have e : Txt.count z c = (z.cps.toList.count (c.cps.getD 0 0) : Nat) := by
            conv => lhs; rw [one_of hc.1]
            rw [count_is]
            exact cnt_count _ _
          rw [e]
          exact q _ (.int _)
        · cases h
      | _ => simp [biD] at h
    | _ => simp [biD] at h
theorem Q_sidx (ho : QE X o (ev cal ea false)) (he : QE X e (ev cal eb false)) (hs : noStar e = true) (hb : baseO o = true) (hl : (apos.endLine == cpos.line) = true) : QE X (.Call (.Attribute o "index" apos) [e] [] cpos) (ev cal (.bi .sidx (.cons ea (.cons eb .nil))) false) := by
  refine q_m1 (pe_m1 F.slot_str_index F.type_str_index mt_sindex ho he (star_of hs) (baseO_ok hb _) hl) (fun p1 x p2 y r h => ?_) fun H v w p1 x g1 p2 y g2 bb d Q r1 r2 h q => ?_
  · cases x <;> first | exact ⟨_, rfl⟩ | (simp [biD] at h)
  · cases x with
    | str z =>
      cases y with
      | str c =>
        simp only [biD] at h
        split at h
        · rename_i i r hc
          cases h
          exact ⟨z, c, i, r, r1.s.1, by rw [r2.s.1], hc, q _ (.int _)⟩
        · cases h
      | _ => simp [biD] at h
    | _ => simp [biD] at h
end
end Den

set_option Elab.async false
set_option linter.all false
set_option maxRecDepth 100000
/-! DenBx: tuples of ints whose objects are known; the method index. -/
namespace Den
open PySem PySem.Spec PyProof.Rows L2
section
variable {X : Cx}
theorem cr_tupX : CallR X (.type "tuple") (fun xs H Q => ∃ (p : Addr) (ns : List Int), xs = [V.ref p] ∧ SqL X.K H p (ns.map V.int) ∧ ∀ (l : Addr) (o : Obj), H l = none → o.dict = none → Q (.ref l) (upd H l (.frz o (.tup (ns.map V.int))))) := by
  intro pins s σ H xs us Q I r h
  obtain ⟨p, ns, rfl, hq, q⟩ := h
  obtain ⟨u, rfl, rx⟩ := vals1 r
  cases rx
  obtain ⟨its, r', pl, hz⟩ := I.list hq
  have hlen := r'.length
  have hn := line63
  refine call_tuple_list pl.isList (fun h' kp => ?_) (by simp only [List.size_toArray] <;> omega)
  have I1 : Inv X pins σ H { s with heap := h' } := I.kept (t' := s.toks) kp
  have I2 : Inv X pins σ (upd H h'.objs.size (.frz { cls := .type "tuple", data := .seq its.toArray } (.tup (ns.map V.int)))) { s with heap := h'.push { cls := .type "tuple", data := .seq its.toArray } } :=
    I1.laid (t' := s.toks) (fun b o e => Heap.get?_push_of_some _ e) (Nat.le_refl _) (show ObjOk X.prog X.w _ _ _ (.frz { cls := .type "tuple", data := .seq its.toArray } (.tup (ns.map V.int))) from ⟨Heap.get?_push_size _ rfl, hz, its, r', IsTup.new _ _⟩)
  exact ⟨.ref h'.objs.size, _, I2, rfl, q _ _ (I1.hok.fresh (Nat.le_refl _)) rfl⟩
theorem flat_ints (ys : List Int) : (ys.map V.int).all flatV = true := by
  rw [List.all_map]
  exact List.all_eq_true.mpr fun _ _ => rfl
theorem mt_tup_indexI : MtR X "tuple.index" (fun x xs H Q => ∃ p, ∃ ys : List Int, ∃ z j, x = .ref p ∧ xs = [.int z] ∧ SqT X.K H p (ys.map V.int) ∧ ys[j]? = some z ∧ (∀ m, m < j → ys[m]? ≠ some z) ∧ Q (.int (j : Nat)) H) := by
  intro pins s σ H x xs v us Q I rx rs h
  obtain ⟨p, ys, z, j, rfl, rfl, hq, hy, hno, q⟩ := h
  cases rx
  obtain ⟨u, rfl, t, rfl⟩ := vals1 rs
  obtain ⟨its, r, pl, hz⟩ := I.tuple hq
  obtain ⟨⟨cls, dd, dt, sl⟩, ho, hc, n, hd⟩ := pl
  simp only at hc hd
  subst hc
  subst hd
  have hl : its.toArray.size = ys.length := by rw [List.size_toArray, ← r.length, List.length_map]
  have hj : j < its.toArray.size := by rw [hl]; exact (List.getElem?_eq_some_iff.mp hy).1
  have at' : ∀ (m : Nat) (hm : m < its.toArray.size), ∃ y t', ys[m]? = some y ∧ its.toArray[m] = Value.int y t' := fun m hm => by
    have hm' : m < ys.length := by rw [← hl]; exact hm
    obtain ⟨w, hw, t', hw'⟩ := r.get (i := m) (x := .int ys[m]) (by simp [hm'])
    refine ⟨ys[m], t', List.getElem?_eq_getElem hm', ?_⟩
    have e := (List.getElem?_eq_some_iff.mp hw).2
    rw [← hw', ← e]
    simp
  refine call_meets PySem.F.slot_tuple_index ⟨_, ho, rfl⟩ PySem.F.entry_tuple_index (PySem.F.args_tuple_index_2 _ _) (TI.tuple_indexAt p its.toArray n dd sl (.int z t) (eqU (.int z)) j hj ?_ ?_)
    ⟨ho, fun w hw => mem_eqAt (x := .int z) ⟨t, rfl⟩ rfl r (flat_ints ys) w (by simpa using hw), ⟨.int (j : Nat), H, I.tok _, ⟨_, rfl⟩, q⟩⟩
  · obtain ⟨y, t', h1, h2⟩ := at' j hj
    rw [hy] at h1
    cases h1
    rw [h2]
    show (z == z) = true
    exact beq_self_eq_true z
  · intro m hm hmj
    obtain ⟨y, t', h1, h2⟩ := at' m hm
    rw [h2]
    show (y == z) = false
    exact beq_eq_false_iff_ne.mpr fun e => hno m hmj (e ▸ h1)
end
section
variable {X : Cx} {o e : Expr} {to : TE} {t : TA} {apos cpos : Pos}
/-- x.index(z), x a known tuple of ints or a list of ints -/
def tIdxX (K : PySem.W.Frag) (to : TE) (t : TA) : TE := fun σ H Q => to σ H fun x H1 => ∃ (p : Addr) (ns : List Int), x = .ref p ∧
  (((∃ ob, H1 p = some (.frz ob (.tup (ns.map V.int))) ∧ ob.dict = none) ∧ t σ H1 fun xs H2 => ∃ z j, xs = [V.int z] ∧ (∃ ob, H2 p = some (.frz ob (.tup (ns.map V.int)))) ∧ ns[j]? = some z ∧ (∀ m, m < j → ns[m]? ≠ some z) ∧ Q (.int (j : Nat)) H2) ∨
   (SqL K H1 p (ns.map V.int) ∧ t σ H1 fun xs H2 => ∃ z j, xs = [V.int z] ∧ SqL K H2 p (ns.map V.int) ∧ ns[j]? = some z ∧ (∀ m, m < j → ns[m]? ≠ some z) ∧ Q (.int (j : Nat)) H2))
theorem pe_tidx (ho : PE X o to) (ha : PA X [e] t) (hs : noStar e = true) (hbase : attributeBase o "index" X.env (eval o X.env) = eval o X.env) (hline : (apos.endLine == cpos.line) = true) :
    PE X (.Call (.Attribute o "index" apos) [e] [] cpos) (tIdxX X.K to t) := by
  have hst := star_of (es := []) (env := X.env) hs
  have hfew : ((backTo cpos (starEach [e] X.env)).all (fun x => !x.1) && (backToKw cpos (keywordEach [] X.env)).all (fun x => x.1.isSome)
      && decide ([e].length + ([] : List Keyword).length + (if ([] : List Keyword).isEmpty then 0 else 1) < 30)) = true := by
    rw [hst]; rfl
  refine ⟨fun pins s σ H Q I h => ?_⟩
  refine wpAny_Call_method_late hbase hfew hline rfl (thn (ho.run pins s σ H _ I h) fun v s1 ⟨x, H1, I1, r1, p, ns, hx, hp⟩ => ?_)
  subst hx
  cases r1
  rcases hp with ⟨⟨ob, hf, hd⟩, q1⟩ | ⟨hq, q1⟩
  · have hA := ha.run cpos pins s1 σ H1 _ I1 q1
    rw [hst] at hA
    have hok := I1.hok p _ hf
    have h1 : s1.TypeIs (.ref p) "tuple" := by
      obtain ⟨_, _, its, _, ob', e', c', _⟩ := hok
      exact ⟨ob', e', c'⟩
    refine ⟨"tuple", "tuple.index", PySem.F.plainAttrs_tuple, PySem.F.slot_tuple_index, PySem.F.type_tuple_index, h1, fun a e => ?_, ?_⟩
    · cases e
      exact ⟨ob, hok.1, hd⟩
    rw [hst]
    refine Calls.callWith_builtin (by rfl) (Calls.evalArgs_plain ?_)
    refine thn hA fun us s2 ⟨vs, H2, I2, r2, z, j, hz, ⟨ob', hf'⟩, hj, hno, q2⟩ => ?_
    exact (mt_tup_indexI (X := X)) pins s2 σ H2 (.ref p) vs (.ref p) us Q I2 rfl r2 ⟨p, ns, z, j, rfl, hz, .inl (.inr ⟨ob', hf'⟩), hj, hno, q2⟩
  · have hA := ha.run cpos pins s1 σ H1 _ I1 q1
    rw [hst] at hA
    obtain ⟨h1, h2⟩ := tyV_is (T := "list") I1 (show RelV (.ref p) (.ref p) from rfl) (.inl ⟨rfl, _, hq⟩)
    refine ⟨"list", "list.index", PySem.F.plainAttrs_list, PySem.F.slot_list_index, PySem.F.type_list_index, h1, h2, ?_⟩
    rw [hst]
    refine Calls.callWith_builtin (by rfl) (Calls.evalArgs_plain ?_)
    refine thn hA fun us s2 ⟨vs, H2, I2, r2, z, j, hz, hq', hj, hno, q2⟩ => ?_
    refine (mt_index (X := X)) pins s2 σ H2 (.ref p) vs (.ref p) us Q I2 rfl r2 ⟨p, ns.map V.int, .int z, j, .int z, rfl, hz, hq', rfl, flat_ints ns, by rw [List.getElem?_map, hj]; rfl, ?_, fun m z' hm hz' => ?_, q2⟩
    · show (z == z) = true
      exact beq_self_eq_true z
    · rw [List.getElem?_map] at hz'
      cases hy : ns[m]? with
      | none => rw [hy] at hz'; cases hz'
      | some w =>
        rw [hy] at hz'
        cases hz'
        show (w == z) = false
        exact beq_eq_false_iff_ne.mpr fun e => hno m hm (by rw [hy, e])
end
section
variable {X : Cx} {cal : Nat → List (Bool × D) → Option (Bool × D)} {a o : Expr} {ea eo : E} {pos p apos cpos : Pos}
theorem Q_tupX (hg : Gl X "tuple") (hm : X.mg "tuple" = none) (ha : QE X a (ev cal ea false)) (hs : noStar a = true) :
    QE X (.Call (.Name "tuple" p) [a] [] pos) (ev cal (.tupX ea) false) := by
  refine pe_imp (pe_callTy cr_tupX hg hm (by decide +kernel) (pa_cons ha pa_nil (star_of hs)) (by decide +kernel) rfl (star_of hs) rfl) fun σ H Q ⟨ρ, φ, bb, d, R, e, q⟩ => ?_
  simp only [ev, fin, Bool.false_eq_true, if_false] at e
  split at e
  · rename_i b0 xs e1
    obtain ⟨ns, hn, e2⟩ := Option.map_eq_some_iff.mp e
    simp only [Prod.mk.injEq] at e2
    obtain ⟨rfl, rfl⟩ := e2
    refine ⟨ρ, φ, b0, _, R, e1, fun v H1 g G => ?_⟩
    obtain ⟨l, ws, fs, rfl, hl, rs, rfl⟩ := G.rep.l
    have := rs.ints hn
    subst this
    refine ⟨l, ns, rfl, .inl hl.rd, fun l' ob hf hd => ?_⟩
    exact q _ _ [] ⟨G.same.trans (same_new hf), .box rfl upd_same hd, fun _ => ⟨List.nodup_nil, fun a m => nomatch m⟩, fun a m => nomatch m⟩
  · cases e
theorem fst_of {ns : List Int} {k : Int} {j : Nat} (h : (ns.findIdx? fun x => decide (x = k)) = some j) : ns[j]? = some k ∧ ∀ m, m < j → ns[m]? ≠ some k := by
  rw [List.findIdx?_eq_some_iff_getElem] at h
  obtain ⟨h1, h2, h3⟩ := h
  refine ⟨by rw [List.getElem?_eq_getElem h1]; exact congrArg some (of_decide_eq_true h2), fun m hm e => ?_⟩
  have h4 := h3 m hm
  rw [List.getElem?_eq_getElem (by omega)] at e
  injection e with e
  rw [e] at h4
  simp at h4
theorem Q_tidx (ho : QE X o (ev cal eo false)) (ha : QE X a (ev cal ea false)) (hs : noStar a = true) (hb : baseO o = true) (hl : (apos.endLine == cpos.line) = true) :
    QE X (.Call (.Attribute o "index" apos) [a] [] cpos) (ev cal (.tidx eo ea) false) := by
  refine pe_imp (pe_tidx ho (pa_cons ha pa_nil (star_of hs)) hs (baseO_ok hb _) hl) fun σ H Q ⟨ρ, φ, bb, d, R, e, q⟩ => ?_
  simp only [ev, fin, Bool.false_eq_true, if_false] at e
  have key : ∀ (p1 : Bool) (dx : D) (ns : List Int), ev cal eo false ρ = some (p1, dx) → ((∃ kvs, dx = .dict kvs ∧ boxOf kvs = some ns) ∨ ∃ xs, dx = .list xs ∧ intsD xs = some ns) →
      (match ev cal ea false ρ with | some (_, .int k) => (ns.findIdx? fun x => decide (x = k)).map fun j => (true, PyData.int (j : Nat)) | _ => none) = some (bb, d) →
      tIdxX X.K (tQ X.K (ev cal eo false)) (tCons (tQ X.K (ev cal ea false)) tNil) σ H Q := fun p1 dx ns e1 hd e2 => by
    split at e2
    · rename_i b2 kk e3
      obtain ⟨j, hj, e4⟩ := Option.map_eq_some_iff.mp e2
      simp only [Prod.mk.injEq] at e4
      obtain ⟨rfl, rfl⟩ := e4
      obtain ⟨f1, f2⟩ := fst_of hj
      refine ⟨ρ, φ, p1, dx, R, e1, fun v H1 g G => ?_⟩
      rcases hd with ⟨kvs, rfl, hk⟩ | ⟨xs, rfl, hk⟩
      · rcases G.rep.d with ⟨a', ms, rfl, e5, _⟩ | ⟨a', κ, fs, rfl, _, e5, _⟩ | ⟨a', κ, es, fs, rfl, e5, _⟩ | ⟨a', ob, ms, rfl, e5, h6, h7, _⟩
        · subst e5; cases hk
        · exfalso
          unfold boxOf at hk
          split at hk
          · cases κ with
            | nil => simp at e5
            | cons p r => simp only [List.map_cons, List.cons.injEq] at e5; exact absurd e5.1 (kD_ne _)
          · cases hk
        · subst e5
          cases es <;> cases hk
        · subst e5
          rw [boxOf_box] at hk
          cases hk
          refine ⟨a', ns, rfl, .inl ⟨⟨ob, h6, h7⟩, ρ, φ, b2, _, R.same G.same, e3, fun w H2 g2 G2 => ⟨kk, j, ?_, ⟨ob, G2.same.at h6 fun ps z => nomatch z⟩, f1, f2, ?_⟩⟩⟩
          · rw [G2.rep.i.1]
          · exact q _ _ [] (Got.scalar (G.same.trans G2.same) (.int _))
      · obtain ⟨l, ws, fs, rfl, hl, rs, rfl⟩ := G.rep.l
        have := rs.ints hk
        subst this
        refine ⟨l, ns, rfl, .inr ⟨.inl hl.rd, ρ, φ, b2, _, R.same G.same, e3, fun w H2 g2 G2 => ⟨kk, j, ?_, G2.same.seq (.inl hl.rd), f1, f2, ?_⟩⟩⟩
        · rw [G2.rep.i.1]
        · exact q _ _ [] (Got.scalar (G.same.trans G2.same) (.int _))
    · cases e2
  split at e
  · rename_i p1 kvs e1
    split at e
    · rename_i ns hb2
      exact key p1 _ ns e1 (.inl ⟨kvs, rfl, hb2⟩) e
    · cases e
  · rename_i p1 xs e1
    split at e
    · rename_i ns hb2
      exact key p1 _ ns e1 (.inr ⟨xs, rfl, hb2⟩) e
    · cases e
  · cases e
end
end Den

set_option Elab.async false
set_option linter.all false
set_option maxRecDepth 100000
/-! DenK: statements: what stands behind one; assignments. -/
namespace Den
open PySem PySem.Spec PyProof.Rows L2 RZ

/-- behind a statement -/
structure Aft (K : PySem.W.Frag) (H : Hp) (ρ : Ev) (φ : List (List Addr)) (H' : Hp) (σ' : L2.St) (ρ' : Ev) (φ' : List (List Addr)) : Prop where
  env : EnvR K H' σ' ρ' φ'
  okk : Okk ρ' φ'
  chg : ∀ a o, H a = some o → ¬ Own ρ φ a → KeptAs o (H' a)
  trk : ∀ a, H a ≠ none → H' a ≠ none
  own : ∀ a, Own ρ' φ' a → Own ρ φ a ∨ H a = none
  all : ∀ f ∈ φ', ∀ a ∈ f, (∃ f0 ∈ φ, a ∈ f0) ∨ H a = none
structure AftR (K : PySem.W.Frag) (H : Hp) (ρ : Ev) (φ : List (List Addr)) (H' : Hp) (b : Bool) (v : V) (d : D) (g : List Addr) : Prop where
  chg : ∀ a o, H a = some o → ¬ Own ρ φ a → KeptAs o (H' a)
  trk : ∀ a, H a ≠ none → H' a ≠ none
  rep : Rep K H' b v d g
  nd : b = true → g.Nodup
  org : ∀ a ∈ g, H a = none ∨ Own ρ φ a ∨ (b = false ∧ ∃ f ∈ φ, a ∈ f)
/-- what follows may be had behind it -/
def Fins (K : PySem.W.Frag) (E : Ends) (H : Hp) (ρ : Ev) (φ : List (List Addr)) (ρ' : Ev) : Fl → Prop
  | .next => ∀ H' σ' φ', Aft K H ρ φ H' σ' ρ' φ' → E.nx σ' H'
  | .brk => ∀ H' σ' φ', Aft K H ρ φ H' σ' ρ' φ' → E.bk σ' H'
  | .cont => ∀ H' σ' φ', Aft K H ρ φ H' σ' ρ' φ' → E.ct σ' H'
  | .ret b d => ∀ H' v g, AftR K H ρ φ H' b v d g → E.rt v H'
def tS (K : PySem.W.Frag) (f : Ev → Option (Fl × Ev)) : TS := fun E σ H => ∃ ρ φ fl ρ', EnvR K H σ ρ φ ∧ Okk ρ φ ∧ f ρ = some (fl, ρ') ∧ Fins K E H ρ φ ρ' fl
def QS (X : Cx) (st : Stmt) (f : Ev → Option (Fl × Ev)) : Prop := PS X st (tS X.K f)
def QSs (X : Cx) (sts : List Stmt) (f : Ev → Option (Fl × Ev)) : Prop := PSs X sts (tS X.K f)
theorem ps_imp {X : Cx} {st : Stmt} {t t' : TS} (h : PS X st t) (w : ∀ E σ H, t' E σ H → t E σ H) : PS X st t' := ⟨fun pins s σ H E I q => h.run pins s σ H E I (w E σ H q)⟩
theorem pss_imp {X : Cx} {sts : List Stmt} {t t' : TS} (h : PSs X sts t) (w : ∀ E σ H, t' E σ H → t E σ H) : PSs X sts t' := ⟨fun pins s σ H E I q => h.run pins s σ H E I (w E σ H q)⟩

section
variable {K : PySem.W.Frag} {H H1 H2 : Hp} {σ σ1 σ2 : L2.St} {ρ ρ1 ρ2 : Ev} {φ φ1 φ2 : List (List Addr)}
theorem Own.mem {a : Addr} (h : Own ρ φ a) : ∃ f ∈ φ, a ∈ f := let ⟨i, d, f, _, e, m⟩ := h; ⟨f, List.mem_of_getElem? e, m⟩
theorem Aft.refl (R : EnvR K H σ ρ φ) (ok : Okk ρ φ) : Aft K H ρ φ H σ ρ φ := ⟨R, ok, fun a o e _ => .of e, fun a h => h, fun a h => .inl h, fun f hf a m => .inl ⟨f, hf, m⟩⟩
theorem none_of {a : Addr} (t : ∀ a, H a ≠ none → H1 a ≠ none) (h : H1 a = none) : H a = none := by
  cases e : H a with
  | none => rfl
  | some o => exact absurd h (t a (by rw [e]; exact fun z => nomatch z))
theorem Aft.trans (A : Aft K H ρ φ H1 σ1 ρ1 φ1) (B : Aft K H1 ρ1 φ1 H2 σ2 ρ2 φ2) : Aft K H ρ φ H2 σ2 ρ2 φ2 := by
  refine ⟨B.env, B.okk, fun a o e n => (A.chg a o e n).trans fun o' e' => B.chg a o' e' fun z => ?_, fun a h => B.trk a (A.trk a h), fun a h => ?_, fun f hf a m => ?_⟩
  · rcases A.own a z with w | w
    · exact n w
    · rw [w] at e; cases e
  · rcases B.own a h with z | z
    · exact A.own a z
    · exact .inr (none_of A.trk z)
  · rcases B.all f hf a m with ⟨f0, z1, z2⟩ | z
    · exact A.all f0 z1 a z2
    · exact .inr (none_of A.trk z)
theorem AftR.pre {b : Bool} {v : V} {d : D} {g : List Addr} (A : Aft K H ρ φ H1 σ1 ρ1 φ1) (B : AftR K H1 ρ1 φ1 H2 b v d g) : AftR K H ρ φ H2 b v d g := by
  refine ⟨fun a o e n => (A.chg a o e n).trans fun o' e' => B.chg a o' e' fun z => ?_, fun a h => B.trk a (A.trk a h), B.rep, B.nd, fun a m => ?_⟩
  · rcases A.own a z with w | w
    · exact n w
    · rw [w] at e; cases e
  · rcases B.org a m with z | z | ⟨z, f, hf, m'⟩
    · exact .inl (none_of A.trk z)
    · exact (A.own a z).elim (fun w => .inr (.inl w)) .inl
    · rcases A.all f hf a m' with w | w
      · exact .inr (.inr ⟨z, w⟩)
      · exact .inl w
/-- only new things were made -/
theorem Aft.quiet (R : EnvR K H σ ρ φ) (ok : Okk ρ φ) (s : Same H H1) : Aft K H ρ φ H1 σ ρ φ :=
  ⟨R.same s, ok, fun a o e _ => s a o e, fun a h z => h (s.free z), fun a h => .inl h, fun f hf a m => .inl ⟨f, hf, m⟩⟩

theorem Fins.pre {E : Ends} {ρ' : Ev} {fl : Fl} (A : Aft K H ρ φ H1 σ1 ρ1 φ1) (q : Fins K E H ρ φ ρ' fl) : Fins K E H1 ρ1 φ1 ρ' fl := by
  cases fl with
  | next => exact fun H2 σ2 φ2 B => q H2 σ2 φ2 (A.trans B)
  | brk => exact fun H2 σ2 φ2 B => q H2 σ2 φ2 (A.trans B)
  | cont => exact fun H2 σ2 φ2 B => q H2 σ2 φ2 (A.trans B)
  | ret b d => exact fun H2 v g B => q H2 v g (B.pre A)
/-! sharing -/
theorem shr_some {p : Option (Bool × D)} {b : Bool} {d : D} (h : shr p = some (b, d)) : ∃ b0, p = some (b0, d) ∧ b = fz d := by
  unfold shr at h
  obtain ⟨q, rfl, e⟩ := Option.map_eq_some_iff.mp h
  obtain ⟨b0, d0⟩ := q
  simp only [Prod.mk.injEq] at e
  obtain ⟨rfl, rfl⟩ := e
  exact ⟨b0, rfl, rfl⟩
theorem share_get {o : Option Nat} {i : Nat} {b : Bool} {d : D} (h : (shareE o ρ)[i]? = some (some (b, d))) : ρ[i]? = some (some (b, d)) ∨ ∃ b0, ρ[i]? = some (some (b0, d)) ∧ b = fz d := by
  cases o with
  | none =>
    simp only [shareE, List.getElem?_map] at h
    obtain ⟨p, e1, e2⟩ := Option.map_eq_some_iff.mp h
    obtain ⟨b0, rfl, rfl⟩ := shr_some e2
    exact .inr ⟨b0, e1, rfl⟩
  | some j =>
    simp only [shareE, List.getElem?_modify] at h
    by_cases hj : j = i
    · subst hj
      simp only [if_true] at h
      obtain ⟨p, e1, e2⟩ := Option.map_eq_some_iff.mp h
      obtain ⟨b0, rfl, rfl⟩ := shr_some e2
      exact .inr ⟨b0, e1, rfl⟩
    · simp only [if_neg hj] at h
      left
      simpa using h
theorem shareE_len (o : Option Nat) : (shareE o ρ).length = ρ.length := by cases o <;> simp [shareE]
theorem EnvR.share (R : EnvR K H σ ρ φ) (o : Option Nat) : EnvR K H σ (shareE o ρ) φ := by
  refine ⟨by rw [shareE_len]; exact R.l1, by rw [shareE_len]; exact R.l2, fun i b d e => ?_, R.tr, R.tb⟩
  rcases share_get e with z | ⟨b0, z, rfl⟩
  · exact R.at_ i b d z
  · obtain ⟨v, f, h1, h2, h3⟩ := R.at_ i b0 d z
    refine ⟨v, f, h1, h2, ?_⟩
    cases hz : fz d with
    | false => exact h3.sh
    | true =>
      obtain ⟨e1, e2⟩ := h3.fz hz
      rw [e1]; exact e2 true
theorem own_share (R : EnvR K H σ ρ φ) {o : Option Nat} {a : Addr} (h : Own (shareE o ρ) φ a) : Own ρ φ a := by
  obtain ⟨i, d, f, e, ef, m⟩ := h
  rcases share_get e with z | ⟨b0, z, hb⟩
  · exact ⟨i, d, f, z, ef, m⟩
  · obtain ⟨v, f', h1, h2, h3⟩ := R.at_ i b0 d z
    rw [ef] at h2; cases h2
    rw [(h3.fz hb.symm).1] at m; cases m
theorem okk_share (R : EnvR K H σ ρ φ) (ok : Okk ρ φ) (o : Option Nat) : Okk (shareE o ρ) φ := by
  intro i d f e ef
  rcases share_get e with z | ⟨b0, z, hb⟩
  · exact ok i d f z ef
  · obtain ⟨v, f', h1, h2, h3⟩ := R.at_ i b0 d z
    rw [ef] at h2; cases h2
    rw [(h3.fz hb.symm).1]
    exact ⟨List.nodup_nil, fun _ _ _ _ a m => nomatch m⟩
/-- all shared: nothing is owned -/
theorem share_all (R : EnvR K H σ ρ φ) {a : Addr} (h : Own (shareE none ρ) φ a) : False := by
  obtain ⟨i, d, f, e, ef, m⟩ := h
  simp only [shareE, List.getElem?_map] at e
  obtain ⟨p, e1, e2⟩ := Option.map_eq_some_iff.mp e
  obtain ⟨b0, rfl, hb⟩ := shr_some e2
  obtain ⟨v, f', h1, h2, h3⟩ := R.at_ i b0 d e1
  rw [ef] at h2; cases h2
  rw [(h3.fz hb.symm).1] at m; cases m
/-- one shared: what it holds is owned by none -/
theorem share_one (R : EnvR K H σ ρ φ) (ok : Okk ρ φ) {i : Nat} {b : Bool} {d : D} {f : List Addr} (hi : ρ[i]? = some (some (b, d))) (hf : φ[i]? = some f) {a : Addr} (m : a ∈ f) (h : Own (shareE (some i) ρ) φ a) : False := by
  obtain ⟨j, d', k, e, ek, mk⟩ := h
  by_cases hj : i = j
  · subst hj
    simp only [shareE, List.getElem?_modify, if_true] at e
    obtain ⟨p, e1, e2⟩ := Option.map_eq_some_iff.mp e
    obtain ⟨b0, rfl, hb⟩ := shr_some e2
    obtain ⟨v, f', h1, h2, h3⟩ := R.at_ i b0 d' e1
    rw [ek] at h2; cases h2
    rw [(h3.fz hb.symm).1] at mk; cases mk
  · simp only [shareE, List.getElem?_modify, if_neg hj] at e
    have e' : ρ[j]? = some (some (true, d')) := by simpa using e
    exact (ok j d' k e' ek).2 i f hj hf a mk m
/-- a store -/
theorem aft_set {ρs : Ev} {vs : List Nat} {b : Bool} {g : List Addr} (R : EnvR K H σ ρ φ) (s : Same H H1) (S : SetR K H1 vs b g σ ρs φ σ1 ρ1 φ1) (okS : Okk ρs φ) (ownS : ∀ a, Own ρs φ a → Own ρ φ a) (fr : b = true → g.Nodup ∧ ∀ a ∈ g, H a = none) (al : ∀ a ∈ g, H a = none ∨ ∃ f ∈ φ, a ∈ f) (no : b = false → ∀ a ∈ g, ¬ Own ρs φ a) : Aft K H ρ φ H1 σ1 ρ1 φ1 := by
  refine ⟨S.env, S.okk okS (fun z => ⟨(fr z).1, fun a m f hf mf => R.tr f hf a mf ((fr z).2 a m)⟩) no, fun a o e _ => s a o e, fun a h z => h (s.free z), fun a h => ?_, fun f hf a m => ?_⟩
  · rcases S.own a h with w | ⟨w1, w2⟩
    · exact .inl (ownS a w)
    · exact .inr ((fr w1).2 a w2)
  · rcases S.all f hf a m with w | w
    · exact .inl w
    · exact (al a w).symm
theorem aft_got {vs : List Nat} {b : Bool} {v : V} {d : D} {g : List Addr} (R : EnvR K H σ ρ φ) (ok : Okk ρ φ) (G : Got K H H1 φ b v d g) (S : SetR K H1 vs b g σ (if b then ρ else shareE none ρ) φ σ1 ρ1 φ1) : Aft K H ρ φ H1 σ1 ρ1 φ1 := by
  cases b with
  | true => exact aft_set R G.same S ok (fun a h => h) G.fr G.al fun z => nomatch z
  | false => exact aft_set (ρs := shareE none ρ) R G.same S (okk_share R ok none) (fun a h => own_share R h) G.fr G.al fun _ a _ h => share_all R h
end

section
variable {X : Cx} {cal : Nat → List (Bool × D) → Option (Bool × D)} {fu : Nat} {e : Expr} {ea : E} {pos px : Pos} {x : Str}
theorem S_nop {st : Stmt} (h : PS X st tNext) : QS X st (exS cal fu .nop) := by
  refine ps_imp h fun E σ H ⟨ρ, φ, fl, ρ', R, ok, e, q⟩ => ?_
  simp only [exS, Option.some.injEq, Prod.mk.injEq] at e
  obtain ⟨rfl, rfl⟩ := e
  exact q H σ φ (Aft.refl R ok)
theorem S_brk : QS X (.Break pos) (exS cal fu .brk) := by
  refine ps_imp ps_break fun E σ H ⟨ρ, φ, fl, ρ', R, ok, e, q⟩ => ?_
  simp only [exS, Option.some.injEq, Prod.mk.injEq] at e
  obtain ⟨rfl, rfl⟩ := e
  exact q H σ φ (Aft.refl R ok)
theorem S_cnt : QS X (.Continue pos) (exS cal fu .cnt) := by
  refine ps_imp ps_continue fun E σ H ⟨ρ, φ, fl, ρ', R, ok, e, q⟩ => ?_
  simp only [exS, Option.some.injEq, Prod.mk.injEq] at e
  obtain ⟨rfl, rfl⟩ := e
  exact q H σ φ (Aft.refl R ok)
/-- the reading of an assignment -/
theorem asg_got {t : T} (hv : vn ea = none) {E : Ends} {σ : L2.St} {H : Hp} (h : tS X.K (exS cal fu (.asg t ea)) E σ H) : tAsg (tQ X.K (ev cal ea false)) (tG X.K (namesT t) t) E σ H := by
  obtain ⟨ρ, φ, fl, ρ', R, ok, e, q⟩ := h
  simp only [exS] at e
  split at e
  · cases e
  rename_i b d e1
  obtain ⟨ρ1, e2, e3⟩ := Option.map_eq_some_iff.mp e
  simp only [Prod.mk.injEq] at e3
  obtain ⟨rfl, rfl⟩ := e3
  rw [hv] at e2
  refine ⟨ρ, φ, b, d, R, e1, fun v H1 g G => ⟨if b then ρ else shareE none ρ, φ, b, d, g, ρ1, ?_, G.rep, e2, fun σ' φ' S => q H1 σ' φ' (aft_got R ok G S)⟩⟩
  cases b with
  | true => exact R.same G.same
  | false => exact (R.share none).same G.same
theorem gname_got {i : Nat} {v : V} {σ : L2.St} {H : Hp} {Q : L2.St → Hp → Prop} (h : tG X.K (namesT (.n i)) (.n i) v σ H Q) : gName i v σ H Q := by
  obtain ⟨ρ, φ, b, d, g, ρ', R, r, e, q⟩ := h
  obtain ⟨φ', S⟩ := SetR.name R r e (vs := namesT (.n i)) (by simp [namesT])
  exact q _ φ' S
theorem asg_n {i : Nat} {te : TE} (hm : ∀ σ H Q, tQ X.K (ev cal ea false) σ H Q → te σ H Q) (hmono : ∀ σ H (Q Q' : VK), te σ H Q → (∀ v H', Q v H' → Q' v H') → te σ H Q') (hv : vn ea = none) {E : Ends} {σ : L2.St} {H : Hp} (h : tS X.K (exS cal fu (.asg (.n i) ea)) E σ H) : tAsg te (gName i) E σ H :=
  hmono σ H _ _ (hm σ H _ (asg_got hv h)) fun v H' q => gname_got q
theorem S_set {i : Nat} (hN : X.N.Nodup) (hi : X.N[i]? = some x) (hx : Loc X.env.scope x) (he : QE X e (ev cal ea false)) (hs : swapsWith e (some (.Name x px)) pos.line X.env = pure false) (hf : X.fn x = true ∨ X.env.scope.names.lookup x = some .local) (hv : vn ea = none) :
    QS X (.Assign [.Name x px] e pos) (exS cal fu (.asg (.n i) ea)) := by
  refine ps_imp (ps_set hN hi hx he hs hf) fun E σ H h => ?_
  obtain ⟨ρ, φ, b, d, R, e1, q⟩ := asg_got hv h
  exact ⟨ρ, φ, b, d, R, e1, fun v H1 g G => gname_got (q v H1 g G)⟩
theorem S_asg {tg : Expr} {t : T} (he : QE X e (ev cal ea false)) (hg : QG X tg (namesT t) t) (hs : swapsWithSole [tg] e pos.line X.env = pure false) (hw : swappedStores [tg] e X.env = pure none) (h1 : (assignEach [tg] X.env).map (·.2) = [assign tg X.env]) (hv : vn ea = none) :
    QS X (.Assign [tg] e pos) (exS cal fu (.asg t ea)) :=
  ps_imp (ps_asg (te := tQ X.K (ev cal ea false)) (g := tG X.K (namesT t) t) he hg hs hw h1) fun E σ H h => asg_got hv h
theorem S_ret (he : QE X e (ev cal ea false)) : QS X (.Return (some e) pos) (exS cal fu (.ret ea)) := by
  refine ps_imp (ps_ret he) fun E σ H ⟨ρ, φ, fl, ρ', R, ok, e, q⟩ => ?_
  simp only [exS] at e
  split at e
  · cases e
  rename_i b d e1
  cases e
  refine ⟨ρ, φ, b, d, R, e1, fun v H1 g G => q H1 v g ⟨fun a o e _ => G.same a o e, fun a h z => h (G.same.free z), G.rep, fun z => (G.fr z).1, fun a m => ?_⟩⟩
  cases b with
  | true => exact .inl ((G.fr rfl).2 a m)
  | false => exact (G.al a m).imp id fun w => .inr ⟨rfl, w⟩
theorem S_retV {i : Nat} (h : PE X (.Name x px) (tVar i)) : QS X (.Return (some (.Name x px)) pos) (exS cal fu (.retV i)) := by
  refine ps_imp (ps_ret h) fun E σ H ⟨ρ, φ, fl, ρ', R, ok, e, q⟩ => ?_
  simp only [exS, getD?] at e
  split at e
  · cases e
  rename_i b d e1
  cases e
  split at e1
  · rename_i p hp
    cases e1
    obtain ⟨v, f, h1, h2, h3⟩ := R.at_ _ _ _ hp
    refine ⟨v, h1, ?_⟩
    cases hz : fz d with
    | true =>
      rw [hz, Bool.or_true] at q
      exact q H v [] ⟨fun a o e _ => .of e, fun a h => h, (h3.fz hz).2 true, fun _ => List.nodup_nil, fun a m => nomatch m⟩
    | false =>
      rw [hz, Bool.or_false] at q
      refine q H v f ⟨fun a o e _ => .of e, fun a h => h, h3, fun z => ?_, fun a m => ?_⟩
      · subst z; exact (ok i d f hp h2).1
      · cases hb : b with
        | true => subst hb; exact .inr (.inl ⟨i, d, f, hp, h2, m⟩)
        | false => exact .inr (.inr ⟨rfl, f, List.mem_of_getElem? h2, m⟩)
  · cases e1
/-- x = y: the one name is shared -/
theorem S_setV {i j : Nat} (hN : X.N.Nodup) (hi : X.N[i]? = some x) (hx : Loc X.env.scope x) {y : Str} {py : Pos} (he : PE X (.Name y py) (tVar j)) (hf : X.fn x = true ∨ X.env.scope.names.lookup x = some .local) :
    QS X (.Assign [.Name x px] (.Name y py) pos) (exS cal fu (.asg (.n i) (.v j))) := by
  refine ps_imp (ps_set hN hi hx he rfl hf) fun E σ H ⟨ρ, φ, fl, ρ', R, ok, e, q⟩ => ?_
  simp only [exS, ev, fin, vn, Bool.false_eq_true, if_false, getD?] at e
  split at e
  · cases e
  rename_i b d e1
  obtain ⟨p, ep, e1⟩ := Option.map_eq_some_iff.mp e1
  obtain ⟨ρ1, e2, e3⟩ := Option.map_eq_some_iff.mp e
  simp only [Prod.mk.injEq] at e3 e1
  obtain ⟨rfl, rfl⟩ := e3
  obtain ⟨rfl, rfl⟩ := e1
  split at ep
  · rename_i p' hp
    cases ep
    obtain ⟨b0, d⟩ := p
    obtain ⟨v, f, h1, h2, h3⟩ := R.at_ _ _ _ hp
    refine ⟨v, h1, ?_⟩
    dsimp only at e2 hp h3 ⊢
    cases hz : fz d with
    | true =>
      rw [hz] at e2
      simp only [if_true] at e2
      obtain ⟨φ', S⟩ := SetR.name R ((h3.fz hz).2 true) e2 (vs := [i]) (by simp)
      exact q H _ φ' (aft_set R (Same.refl _) S ok (fun a h => h) (fun _ => ⟨List.nodup_nil, fun a m => nomatch m⟩) (fun a m => nomatch m) fun z => nomatch z)
    | false =>
      rw [hz] at e2
      simp only [Bool.false_eq_true, if_false] at e2
      obtain ⟨φ', S⟩ := SetR.name (R.share (some j)) h3.sh e2 (vs := [i]) (by simp)
      exact q H _ φ' (aft_set R (Same.refl _) S (okk_share R ok _) (fun a h => own_share R h) (fun z => nomatch z) (fun a m => .inr ⟨f, List.mem_of_getElem? h2, m⟩) fun _ a m h => share_one R ok hp h2 m h)
  · cases ep
/-! blocks, if -/
variable {st : Stmt} {sts sts2 : List Stmt} {s1 : S} {ss ss2 : Ss} {c : Expr} {ec : E}
theorem Ss_nil : QSs X [] (exs cal fu .nil) := by
  refine pss_imp pss_nil fun E σ H ⟨ρ, φ, fl, ρ', R, ok, e, q⟩ => ?_
  simp only [exs, Option.some.injEq, Prod.mk.injEq] at e
  obtain ⟨rfl, rfl⟩ := e
  exact q H σ φ (Aft.refl R ok)
theorem Ss_cons (h1 : QS X st (exS cal fu s1)) (h2 : QSs X sts (exs cal fu ss)) : QSs X (st :: sts) (exs cal fu (.cons s1 ss)) := by
  refine pss_imp (pss_cons h1 h2) fun E σ H ⟨ρ, φ, fl, ρ', R, ok, e, q⟩ => ?_
  simp only [exs] at e
  split at e
  · cases e
  · rename_i ρ1 e1
    exact ⟨ρ, φ, .next, ρ1, R, ok, e1, fun H1 σ1 φ1 A => ⟨ρ1, φ1, fl, ρ', A.env, A.okk, e, q.pre A⟩⟩
  · rename_i ρ1 e1
    cases e
    exact ⟨ρ, φ, .brk, _, R, ok, e1, q⟩
  · rename_i ρ1 e1
    cases e
    exact ⟨ρ, φ, .cont, _, R, ok, e1, q⟩
  · rename_i b d ρ1 e1
    cases e
    exact ⟨ρ, φ, .ret b d, _, R, ok, e1, q⟩
theorem S_ife (hc : QT X c (ev cal ec true)) (ha : QSs X sts (exs cal fu ss)) (hb : QSs X sts2 (exs cal fu ss2)) : QS X (.If c sts sts2 pos) (exS cal fu (.ife ec ss ss2)) := by
  refine ps_imp (ps_if hc ha hb) fun E σ H ⟨ρ, φ, fl, ρ', R, ok, e, q⟩ => ?_
  have go := fun H1 (s : Same H H1) => q.pre (Aft.quiet R ok s)
  simp only [exS] at e
  split at e
  · rename_i p1 e1
    refine ⟨ρ, φ, p1, true, R, e1, fun H1 s => ?_⟩
    show ite (true = true) _ _
    rw [if_pos rfl]
    exact ⟨ρ, φ, fl, ρ', R.same s, ok, e, go H1 s⟩
  · rename_i p1 e1
    refine ⟨ρ, φ, p1, false, R, e1, fun H1 s => ?_⟩
    show ite (false = true) _ _
    rw [if_neg Bool.false_ne_true]
    exact ⟨ρ, φ, fl, ρ', R.same s, ok, e, go H1 s⟩
  · cases e
end
end Den

set_option Elab.async false
set_option linter.all false
set_option maxRecDepth 100000
/-! DenL: changes; loops. -/
namespace Den
open PySem PySem.Spec PyProof.Rows L2 RZ

mutual
theorem Rep.obj {K : PySem.W.Frag} {H : Hp} : ∀ {v : V} {d : D} {f : List Addr}, Rep K H true v d f → ∀ a ∈ f, (∀ xs, H a ≠ some (.tup xs)) ∧ (∀ o xs, H a ≠ some (.frz o (lt xs))) ∧ ∀ ps, H a ≠ some (.tbl ps)
  | _, _, _, .non, _, m => nomatch m
  | _, _, _, .bl _, _, m => nomatch m
  | _, _, _, .int _, _, m => nomatch m
  | _, _, _, .str _, _, m => nomatch m
  | _, _, _, .tup h r, a, m => Reps.obj r a m
  | _, _, _, .lst h r, a, m => (List.mem_cons.mp m).elim (fun e => by subst e; have h' : H a = some (.lst _) := h; rw [h']; exact ⟨fun _ z => (nomatch z), fun _ _ z => (nomatch z), fun _ z => (nomatch z)⟩) (Reps.obj r a)
  | _, _, _, .scr _ _, _, m => nomatch m
  | _, _, _, .box _ _ _, _, m => nomatch m
  | _, _, _, .dic h e r, a, m => (List.mem_cons.mp m).elim (fun e => by subst e; have h' : H a = some (.dK _) := h; rw [h']; exact ⟨fun _ z => (nomatch z), fun _ _ z => (nomatch z), fun _ z => (nomatch z)⟩) (Reps.obj r a)
  | _, _, _, .dit h e r, a, m => (List.mem_cons.mp m).elim (fun e => by subst e; have h' : H a = some (.dT _) := h; rw [h']; exact ⟨fun _ z => (nomatch z), fun _ _ z => (nomatch z), fun _ z => (nomatch z)⟩) (Reps.obj r a)
theorem Reps.obj {K : PySem.W.Frag} {H : Hp} : ∀ {v : List V} {d : List D} {f : List Addr}, Reps K H true v d f → ∀ a ∈ f, (∀ xs, H a ≠ some (.tup xs)) ∧ (∀ o xs, H a ≠ some (.frz o (lt xs))) ∧ ∀ ps, H a ≠ some (.tbl ps)
  | _, _, _, .nil, _, m => nomatch m
  | _, _, _, .cons r rs, a, m => (List.mem_append.mp m).elim (Rep.obj r a) (Reps.obj rs a)
end

section
variable {K : PySem.W.Frag} {H H1 : Hp} {σ : L2.St} {ρ : Ev} {φ : List (List Addr)}
theorem ownD_get {i : Nat} {d : D} (h : ownD ρ i = some d) : ρ[i]? = some (some (true, d)) := by
  unfold ownD getD? at h
  split at h
  · rename_i d' e
    cases h
    split at e
    · rename_i p hp; cases e; exact hp
    · cases e
  · cases h
/-- what a name owns, changed -/
theorem aft_mut (R : EnvR K H σ ρ φ) (ok : Okk ρ φ) {i : Nat} {d0 d1 : D} {v : V} {f0 f1 : List Addr} (hi : ρ[i]? = some (some (true, d0))) (hf : φ[i]? = some f0) (hv : σ[i]? = some (some v)) (r0 : Rep K H true v d0 f0)
    (ch : ∀ a o, H a = some o → a ∉ f0 → KeptAs o (H1 a)) (tr : ∀ a, H a ≠ none → H1 a ≠ none) (r : Rep K H1 true v d1 f1) (nd : f1.Nodup) (sub : ∀ a ∈ f1, a ∈ f0 ∨ H a = none) : Aft K H ρ φ H1 σ (ρ.set i (some (true, d1))) (φ.set i f1) := by
  have li : i < ρ.length := (List.getElem?_eq_some_iff.mp hi).1
  have lf : i < φ.length := (List.getElem?_eq_some_iff.mp hf).1
  obtain ⟨_, dj⟩ := ok i d0 f0 hi hf
  have keep : ∀ {b : Bool} {w : V} {d : D} {f : List Addr}, Rep K H b w d f → (∀ a ∈ f, a ∉ f0) → Rep K H1 b w d f := fun {b w d f} rr hd => by
    refine rr.keep (fun a xs e => ?_) (fun a o xs e => ?_) fun a m o e => ch a o e (hd a m)
    · exact ch a _ e fun m => (r0.obj a m).1 xs e
    · exact ch a _ e fun m => (r0.obj a m).2.1 o xs e
  refine ⟨⟨by simp [R.l1], by simp [R.l2], fun j b d e => ?_, fun f hf' a m => ?_, fun c P hc hn => (let ⟨ps, e, t⟩ := R.tb c P hc hn; let ⟨qs, e2, t2⟩ := ch P _ e fun m => (r0.obj P m).2.2 ps e; ⟨qs, e2, t2 t⟩)⟩, fun j d f e1 e2 => ?_, fun a o e n => ch a o e fun m => n ⟨i, d0, f0, hi, hf, m⟩, tr, fun a h => ?_, fun f hf' a m => ?_⟩
  · by_cases hj : i = j
    · subst hj
      rw [List.getElem?_set_self li] at e
      simp only [Option.some.injEq, Prod.mk.injEq] at e
      obtain ⟨rfl, rfl⟩ := e
      exact ⟨v, f1, hv, List.getElem?_set_self lf, r⟩
    · rw [List.getElem?_set_ne hj] at e ⊢
      obtain ⟨w, f, h1, h2, h3⟩ := R.at_ j b d e
      exact ⟨w, f, h1, h2, keep h3 fun a m m0 => dj j f (fun z => hj z.symm) h2 a m0 m⟩
  · rcases List.mem_or_eq_of_mem_set hf' with z | z
    · exact tr a (R.tr f z a m)
    · subst z; exact r.trk a m
  · by_cases hj : i = j
    · subst hj
      rw [List.getElem?_set_self lf] at e2
      cases e2
      refine ⟨nd, fun k h hk e3 a m mh => ?_⟩
      rw [List.getElem?_set_ne (fun z => hk z.symm)] at e3
      rcases sub a m with z | z
      · exact dj k h hk e3 a z mh
      · exact R.tr h (List.mem_of_getElem? e3) a mh z
    · rw [List.getElem?_set_ne hj] at e1 e2
      obtain ⟨q1, q2⟩ := ok j d f e1 e2
      refine ⟨q1, fun k h hk e3 a m mh => ?_⟩
      by_cases hk2 : i = k
      · subst hk2
        rw [List.getElem?_set_self lf] at e3
        cases e3
        rcases sub a mh with z | z
        · exact dj j f (fun z => hj z.symm) e2 a z m
        · exact R.tr f (List.mem_of_getElem? e2) a m z
      · rw [List.getElem?_set_ne hk2] at e3
        exact q2 k h hk e3 a m mh
  · obtain ⟨j, d, f, e1, e2, m⟩ := h
    by_cases hj : i = j
    · subst hj
      rw [List.getElem?_set_self lf] at e2
      cases e2
      exact (sub a m).imp (fun z => ⟨i, d0, f0, hi, hf, z⟩) id
    · rw [List.getElem?_set_ne hj] at e1 e2
      exact .inl ⟨j, d, f, e1, e2, m⟩
  · rcases List.mem_or_eq_of_mem_set hf' with z | z
    · exact .inl ⟨f, z, m⟩
    · subst z
      exact (sub a m).imp (fun w => ⟨f0, List.mem_of_getElem? hf, w⟩) id
/-- the list a name owns -/
theorem own_list (R : EnvR K H σ ρ φ) (ok : Okk ρ φ) {i : Nat} {xs : List D} (hi : ownD ρ i = some (.list xs)) : ∃ l us fs, σ[i]? = some (some (.ref l)) ∧ φ[i]? = some (l :: fs) ∧ H l = some (.lst us) ∧ Reps K H true us xs fs ∧ (l :: fs).Nodup ∧ ρ[i]? = some (some (true, .list xs)) := by
  have e := ownD_get hi
  obtain ⟨v, f, h1, h2, h3⟩ := R.at_ _ _ _ e
  obtain ⟨l, us, fs, rfl, ha, ra, rfl⟩ := h3.l
  exact ⟨l, us, fs, h1, h2, ha, ra, (ok i _ _ e h2).1, e⟩
/-- the list a name owns, changed at its top -/
theorem aft_lst (R : EnvR K H σ ρ φ) (ok : Okk ρ φ) {i : Nat} {xs ys : List D} {l : Addr} {us ws : List V} {fs gs : List Addr} (h1 : σ[i]? = some (some (.ref l))) (h2 : φ[i]? = some (l :: fs)) (h3 : H l = some (.lst us)) (h4 : Reps K H true us xs fs) (h5 : (l :: fs).Nodup) (h6 : ρ[i]? = some (some (true, .list xs)))
    (s : Same H H1) (r : Reps K H1 true ws ys gs) (nd : gs.Nodup) (sub : ∀ a ∈ gs, a ∈ fs ∨ H a = none) : Aft K H ρ φ (upd H1 l (.lst ws)) σ (ρ.set i (some (true, .list ys))) (φ.set i (l :: gs)) := by
  have e1 := s l _ h3
  have ln : l ∉ gs := fun m => by
    rcases sub l m with z | z
    · exact (List.nodup_cons.mp h5).1 z
    · rw [z] at h3; cases h3
  refine aft_mut R ok h6 h2 h1 (.lst (b := true) h3 h4) (fun a o e n => ?_) (fun a h => ?_) (.lst (b := true) upd_same (r.keep (fun a zs e => ?_) (fun a o zs e => ?_) fun a m o e => ?_)) (List.nodup_cons.mpr ⟨ln, nd⟩) fun a m => ?_
  · rw [upd_ne (fun z => n (by rw [z]; exact List.mem_cons_self))]; exact s a o e
  · by_cases hl : a = l
    · subst hl; rw [upd_same]; exact fun z => nomatch z
    · rw [upd_ne hl]; exact fun z => h (s.free z)
  · rw [upd_ne (fun z => by rw [z, e1] at e; cases e)]; exact e
  · rw [upd_ne (fun z => by rw [z, e1] at e; cases e)]; exact e
  · rw [upd_ne (fun z => ln (by rw [← z]; exact m))]; exact .of e
  · rcases List.mem_cons.mp m with z | z
    · exact .inl (by rw [z]; exact List.mem_cons_self)
    · exact (sub a z).imp (List.mem_cons_of_mem _) id
theorem Reps.set {b : Bool} : ∀ {us : List V} {xs : List D} {fs : List Addr} {j : Nat} {v : V} {d : D} {g : List Addr}, Reps K H b us xs fs → Rep K H b v d g → ∃ gs, Reps K H b (us.set j v) (xs.set j d) gs ∧ (∀ a ∈ gs, a ∈ fs ∨ a ∈ g) ∧ (fs.Nodup → g.Nodup → (∀ a ∈ g, a ∉ fs) → gs.Nodup)
  | _, _, _, _, _, _, g, .nil, _ => ⟨[], .nil, (fun a m => nomatch m), fun _ _ _ => List.nodup_nil⟩
  | _, _, _, 0, _, _, g, .cons (f := f) (fs := fs) r rs, h => ⟨g ++ fs, .cons h rs, fun a m => (List.mem_append.mp m).elim .inr fun z => .inl (List.mem_append_right _ z), fun n1 n2 n3 => by
    rw [List.nodup_append] at n1 ⊢
    exact ⟨n2, n1.2.1, fun a ha c hc e => n3 a ha (List.mem_append_right _ (e ▸ hc))⟩⟩
  | _, _, _, j + 1, _, _, g, .cons (f := f) (fs := fs) r rs, h => by
    obtain ⟨gs, q1, q2, q3⟩ := rs.set (j := j) h
    refine ⟨f ++ gs, .cons r q1, fun a m => ?_, fun n1 n2 n3 => ?_⟩
    · rcases List.mem_append.mp m with z | z
      · exact .inl (List.mem_append_left _ z)
      · exact (q2 a z).imp (List.mem_append_right _) id
    · rw [List.nodup_append] at n1 ⊢
      refine ⟨n1.1, q3 n1.2.1 n2 fun a m m2 => n3 a m (List.mem_append_right _ m2), fun a ha c hc e => ?_⟩
      subst e
      rcases q2 a hc with z | z
      · exact n1.2.2 a ha a z rfl
      · exact n3 a z (List.mem_append_left _ ha)
end

section
variable {X : Cx} {cal : Nat → List (Bool × D) → Option (Bool × D)} {fu : Nat} {e k k2 : Expr} {ea ek ek2 : E} {pos px cpos apos ps : Pos} {x : Str} {i : Nat}
def notCall0 : Expr → Bool
  | .Call _ _ _ _ => false
  | _ => true
theorem base_of {o : Expr} {n : Str} {env : Env} (h : notCall0 o = true) : attributeBase o n env (eval o env) = eval o env := by
  cases o <;> first | rfl | exact absurd h (by simp [notCall0])
theorem few_of {env : Env} {e : Expr} (h : noStar e = true) : ((backTo cpos (starEach [e] env)).all (fun x => !x.1) && (backToKw cpos (keywordEach [] env)).all (fun x => x.1.isSome)
      && decide ([e].length + ([] : List Keyword).length + (if ([] : List Keyword).isEmpty then 0 else 1) < 30)) = true := by
  rw [star_of h]; rfl
theorem tyV_lst {K : PySem.W.Frag} {H : Hp} {l : Addr} {us : List V} (h : H l = some (.lst us)) : tyV K "list" (.ref l) H := .inl ⟨rfl, us, SqL.of h⟩
theorem S_app (hx : PE X (.Name x px) (tVar i)) (he : QE X e (ev cal ea false)) (hs : noStar e = true) (hl : (apos.endLine == cpos.line) = true) :
    QS X (.Expr (.Call (.Attribute (.Name x px) "append" apos) [e] [] cpos) pos) (exS cal fu (.app i ea)) := by
  refine ps_imp (ps_expr (pe_bm PySem.F.plainAttrs_list PySem.F.slot_list_append PySem.F.type_list_append mt_append hx (pa_cons he pa_nil (star_of hs)) (base_of rfl) (few_of hs) hl (star_of hs) rfl)) fun E σ H ⟨ρ, φ, fl, ρ', R, ok, e, q⟩ => ?_
  simp only [exS] at e
  split at e
  · rename_i xs ho
    split at e
    · rename_i d e1
      split at e
      · rename_i hlen
        simp only [Option.some.injEq, Prod.mk.injEq] at e
        obtain ⟨rfl, rfl⟩ := e
        obtain ⟨l, us, fs, h1, h2, h3, h4, h5, h6⟩ := own_list R ok ho
        refine ⟨_, h1, tyV_lst h3, ρ, φ, true, d, R, e1, fun v H1 g G => ⟨l, us, v, rfl, rfl, G.same l _ h3, by rw [h4.length]; exact hlen, ?_⟩⟩
        obtain ⟨n1, n2⟩ := G.fr rfl
        refine q _ σ _ (aft_lst R ok h1 h2 h3 h4 h5 h6 G.same ((h4.same G.same).append (Reps.one G.rep)) ?_ fun a m => ?_)
        · rw [List.nodup_append]
          exact ⟨(List.nodup_cons.mp h5).2, n1, fun a ha c hc z => h4.trk a ha (by rw [z]; exact n2 c hc)⟩
        · rcases List.mem_append.mp m with z | z
          · exact .inl z
          · exact .inr (n2 a z)
      · cases e
    · cases e
  · cases e
theorem S_ext (hx : PE X (.Name x px) (tVar i)) (he : QE X e (ev cal ea false)) (hs : noStar e = true) (hl : (apos.endLine == cpos.line) = true) :
    QS X (.Expr (.Call (.Attribute (.Name x px) "extend" apos) [e] [] cpos) pos) (exS cal fu (.ext i ea)) := by
  refine ps_imp (ps_expr (pe_bm PySem.F.plainAttrs_list PySem.F.slot_list_extend PySem.F.type_list_extend mt_extT hx (pa_cons he pa_nil (star_of hs)) (base_of rfl) (few_of hs) hl (star_of hs) rfl)) fun E σ H ⟨ρ, φ, fl, ρ', R, ok, e, q⟩ => ?_
  simp only [exS] at e
  split at e
  · rename_i xs ho
    obtain ⟨l, us, fs, h1, h2, h3, h4, h5, h6⟩ := own_list R ok ho
    have fin : ∀ {ys : List D} {zs : List V} {H1 : Hp} {g : List Addr} {b : Bool}, Same H H1 → Reps X.K H1 b zs ys g → fzs ys = true → xs.length + ys.length ≤ lim ∧ ρ' = ρ.set i (some (true, .list (xs ++ ys))) ∧ fl = .next → us.length + zs.length ≤ sizeLine ∧ E.nx σ (upd H1 l (.lst (us ++ zs))) := fun {ys zs H1 g b} s r hf ⟨hl, hr, hfl⟩ => by
      subst hr hfl
      refine ⟨by rw [h4.length, r.length]; exact hl, ?_⟩
      exact q _ σ _ (aft_lst R ok h1 h2 h3 h4 h5 h6 s ((h4.same s).append ((r.fz hf).2 true)) (by rw [List.append_nil]; exact (List.nodup_cons.mp h5).2) fun a m => .inl (by rw [List.append_nil] at m; exact m))
    split at e
    · rename_i ys e1
      split at e
      · rename_i hc
        simp only [Option.some.injEq, Prod.mk.injEq] at e
        obtain ⟨e2, e3⟩ := e
        refine ⟨_, h1, tyV_lst h3, ρ, φ, true, _, R, e1, fun v H1 g G => ?_⟩
        obtain ⟨b, zs, gs, rfl, ha, ra, rfl⟩ := G.rep.l
        obtain ⟨q1, q2⟩ := fin G.same ra hc.2 ⟨hc.1, e3.symm, e2.symm⟩
        exact ⟨l, b, us, zs, rfl, rfl, G.same l _ h3, .inl ha, q1, q2⟩
      · cases e
    · rename_i yb ys e1
      split at e
      · rename_i hc
        simp only [Option.some.injEq, Prod.mk.injEq] at e
        obtain ⟨e2, e3⟩ := e
        refine ⟨_, h1, tyV_lst h3, ρ, φ, yb, _, R, e1, fun v H1 g G => ?_⟩
        obtain ⟨b, zs, rfl, ha, ra⟩ := G.rep.t
        obtain ⟨q1, q2⟩ := fin G.same ra hc.2 ⟨hc.1, e3.symm, e2.symm⟩
        exact ⟨l, b, us, zs, rfl, rfl, G.same l _ h3, .inr (SqT.of ha), q1, q2⟩
      · cases e
    · cases e
  · cases e
theorem dPut_tk (es : List (D × D)) (kk : List Key) (d : D) : dPut ((PyData.none, PyData.none) :: es) (tD kk) d = (PyData.none, PyData.none) :: dPut es (tD kk) d := by
  have h : PyData.eqv PyData.none (tD kk) = false := by simp [tD, PyData.eqv]
  unfold dPut
  rw [List.any_cons, List.map_cons]
  simp only [h, Bool.false_or, Bool.false_eq_true, if_false]
  split <;> rfl
/-- xs[k] = e -/
def rSetA (K : PySem.W.Frag) : TSet := fun o i v H Q => rSetL o i v H Q ∨ ∃ a H', o = .ref a ∧ DPut H a i v H' ∧ Q H'
theorem set_any (hu : X.A.units + 1 < cLine) : PSet X (rSetA X.K) := by
  intro pins s σ H o i v ov iv u Q I ro ri rv h
  rcases h with h | ⟨a, H', rfl, h, q⟩
  · exact set_list pins s σ H o i v ov iv u Q I ro ri rv h
  · cases ro
    exact d_setItem hu I h ri rv fun s' I' => ⟨H', I', q⟩
theorem sole_sub {o i e : Expr} {p : Pos} {n : Nat} {env : Env} : swapsWithSole [.Subscript o i p] e n env = pure false := by
  cases e <;> rfl
theorem swap_sub {o i e : Expr} {p : Pos} {env : Env} : swappedStores [.Subscript o i p] e env = pure none := by
  cases e <;> rfl
theorem S_set1 (hu : X.A.units + 1 < cLine) (hx : PE X (.Name x px) (tVar i)) (hk : QE X k (ev cal ek false)) (he : QE X e (ev cal ea false))
    (ha : ∀ v, assign (.Subscript (.Name x px) k ps) X.env v = (do
      let ov ← holding [v] (eval (.Name x px) X.env)
      let iv ← holding [v, ov] (eval k X.env)
      standAt ps
      holding [v, ov, iv] (setItem ov iv v)
      release [v, ov, iv] [])) :
    QS X (.Assign [.Subscript (.Name x px) k ps] e pos) (exS cal fu (.set1 i ek ea)) := by
  refine ps_imp (ps_asg he (pg_sub hx hk (set_any hu) ha) sole_sub swap_sub rfl) fun E σ H ⟨ρ, φ, fl, ρ', R, ok, e, q⟩ => ?_
  simp only [exS] at e
  split at e
  · rename_i d e1
    split at e
    · cases e
    rename_i kb kd e2
    refine ⟨ρ, φ, true, d, R, e1, fun v H1 g G => ?_⟩
    obtain ⟨n1, n2⟩ := G.fr rfl
    split at e
    · rename_i xs j ho
      split at e
      · cases e
      rename_i m hm
      simp only [Option.some.injEq, Prod.mk.injEq] at e
      obtain ⟨rfl, rfl⟩ := e
      obtain ⟨l, us, fs, h1, h2, h3, h4, h5, h6⟩ := own_list R ok ho
      refine ⟨_, h1, ρ, φ, kb, _, R.same G.same, e2, fun w H2 gk Gk => .inl ⟨l, us, j, m, rfl, Gk.rep.i.1, Gk.same l _ (G.same l _ h3), by rw [h4.length]; exact hm, ?_⟩⟩
      have s2 := G.same.trans Gk.same
      obtain ⟨gs, q1, q2, q3⟩ := (h4.same s2).set (j := m) (G.rep.same Gk.same)
      refine q _ σ _ (aft_lst R ok h1 h2 h3 h4 h5 h6 s2 q1 (q3 (List.nodup_cons.mp h5).2 n1 fun a m m2 => h4.trk a m2 (n2 a m)) fun a m => (q2 a m).imp id fun z => n2 a z)
    · rename_i kd' kvs ho
      split at e
      · rename_i hok
        simp only [Option.some.injEq, Prod.mk.injEq] at e
        obtain ⟨rfl, rfl⟩ := e
        obtain ⟨hp, hlen, hsc⟩ := hok
        have ho' := ownD_get ho
        obtain ⟨dv, f0, h1, h2, h3⟩ := R.at_ _ _ _ ho'
        have hnd := (ok i _ _ ho' h2).1
        refine ⟨_, h1, ρ, φ, kb, _, R.same G.same, e2, fun w H2 gk Gk => .inr ?_⟩
        have s2 := G.same.trans Gk.same
        have trn : ∀ {a : Addr} {ob : HO} {u : HO} , H a = some ob → ∀ b, H b ≠ none → upd H2 a u b ≠ none := fun {a ob u} ea b hb => by
          by_cases hba : b = a
          · subst hba; rw [upd_same]; exact fun z => nomatch z
          · rw [upd_ne hba]; exact fun z => hb (s2.free z)
        unfold putOk at hp
        rw [Bool.and_eq_true] at hp
        obtain ⟨hkey, hval⟩ := hp
        rcases h3.dn hsc with ⟨a, ks, fs, rfl, ht, ha, hen, hr, rfl⟩ | ⟨a, ks, es, fs, rfl, rfl, ha, hen, hr, rfl⟩
        · simp only [keyFor, ht, Bool.false_eq_true, if_false] at hkey
          obtain ⟨kk, rfl, rfl⟩ := Gk.rep.key hkey
          have ha' : H a = some (.dK ks) := ha
          have hl2 : ks.length = kvs.length := by have := congrArg List.length hen; simpa using this
          obtain ⟨fs', p1, p2, p3⟩ := put_enc eqv_kD kk (G.rep.same Gk.same) hen (hr.same s2) hval
          have sub : ∀ c ∈ fs', c ∈ fs ∨ c ∈ g := fun c m => by
            rcases p3 with z | z
            · exact .inl (z.subset m)
            · rw [z] at m; exact List.mem_append.mp m
          have an : a ∉ fs' := fun m => by
            rcases sub a m with z | z
            · exact (List.nodup_cons.mp hnd).1 z
            · rw [n2 a z] at ha'; cases ha'
          have nd' : fs'.Nodup := by
            rcases p3 with z | z
            · exact z.nodup (List.nodup_cons.mp hnd).2
            · rw [z, List.nodup_append]
              exact ⟨(List.nodup_cons.mp hnd).2, n1, fun c hc c2 hc2 e => hr.trk c hc (by rw [e]; exact n2 c2 hc2)⟩
          refine ⟨a, _, rfl, .inl ⟨ks, kk, s2 a _ ha', rfl, by rw [hl2]; exact hlen, rfl⟩, q _ σ _ (aft_mut R ok ho' h2 h1 h3 (fun c o ec nc => ?_) (trn ha') (.dic (b := true) upd_same p1 (p2.keep (fun c zs ec => ?_) (fun c o zs ec => ?_) fun c m o ec => ?_)) (List.nodup_cons.mpr ⟨an, nd'⟩) fun c m => ?_)⟩
          · rw [upd_ne (fun z => nc (by rw [z]; exact List.mem_cons_self))]; exact s2 c o ec
          · rw [upd_ne (fun z => by rw [z, s2 a _ ha'] at ec; cases ec)]; exact ec
          · rw [upd_ne (fun z => by rw [z, s2 a _ ha'] at ec; cases ec)]; exact ec
          · rw [upd_ne (fun z => an (by rw [← z]; exact m))]; exact .of ec
          · rcases List.mem_cons.mp m with z | z
            · exact .inl (by rw [z]; exact List.mem_cons_self)
            · exact (sub c z).imp (List.mem_cons_of_mem _) fun w => n2 c w
        · simp only [keyFor, tk, if_true] at hkey
          split at hkey
          · rename_i zs
            obtain ⟨c0, us0, rfl, hc0, rc0⟩ := Gk.rep.t
            obtain ⟨kk, rfl, rfl⟩ := rc0.keys hkey
            have ha' : H a = some (.dT ks) := ha
            have hl2 : ks.length = es.length := by have := congrArg List.length hen; simpa using this
            have hg0 : dGet ((PyData.none, PyData.none) :: es) (.tuple (kk.map kD)) = dGet es (tD kk) := by simp [dGet, tD, List.find?_cons, PyData.eqv]
            have hp0 : dPut ((PyData.none, PyData.none) :: es) (.tuple (kk.map kD)) d = (PyData.none, PyData.none) :: dPut es (tD kk) d := dPut_tk es kk d
            rw [hg0] at hval
            rw [hp0] at q
            obtain ⟨fs', p1, p2, p3⟩ := put_enc eqv_tD kk (G.rep.same Gk.same) hen (hr.same s2) hval
            have sub : ∀ c ∈ fs', c ∈ fs ∨ c ∈ g := fun c m => by
              rcases p3 with z | z
              · exact .inl (z.subset m)
              · rw [z] at m; exact List.mem_append.mp m
            have an : a ∉ fs' := fun m => by
              rcases sub a m with z | z
              · exact (List.nodup_cons.mp hnd).1 z
              · rw [n2 a z] at ha'; cases ha'
            have nd' : fs'.Nodup := by
              rcases p3 with z | z
              · exact z.nodup (List.nodup_cons.mp hnd).2
              · rw [z, List.nodup_append]
                exact ⟨(List.nodup_cons.mp hnd).2, n1, fun c hc c2 hc2 e => hr.trk c hc (by rw [e]; exact n2 c2 hc2)⟩
            refine ⟨a, _, rfl, .inr ⟨ks, kk, c0, s2 a _ ha', rfl, hc0, by rw [hl2]; have : es.length + 1 < 16777216 := hlen; rw [sizeLine_eq]; omega, rfl⟩, q _ σ _ (aft_mut R ok ho' h2 h1 h3 (fun c o ec nc => ?_) (trn ha') (.dit (b := true) upd_same p1 (p2.keep (fun c zs ec => ?_) (fun c o zs ec => ?_) fun c m o ec => ?_)) (List.nodup_cons.mpr ⟨an, nd'⟩) fun c m => ?_)⟩
            · rw [upd_ne (fun z => nc (by rw [z]; exact List.mem_cons_self))]; exact s2 c o ec
            · rw [upd_ne (fun z => by rw [z, s2 a _ ha'] at ec; cases ec)]; exact ec
            · rw [upd_ne (fun z => by rw [z, s2 a _ ha'] at ec; cases ec)]; exact ec
            · rw [upd_ne (fun z => an (by rw [← z]; exact m))]; exact .of ec
            · rcases List.mem_cons.mp m with z | z
              · exact .inl (by rw [z]; exact List.mem_cons_self)
              · exact (sub c z).imp (List.mem_cons_of_mem _) fun w => n2 c w
          · cases hkey
      · cases e
    · cases e
  · cases e
end
end Den

set_option Elab.async false
set_option linter.all false
set_option maxRecDepth 100000
/-! DenM: loops. -/
namespace Den
open PySem PySem.Spec PyProof.Rows L2 RZ

section
variable {K : PySem.W.Frag} {H H1 H2 : Hp} {σ σ1 σ2 : L2.St} {ρ ρ1 ρ2 : Ev} {φ φ1 φ2 : List (List Addr)}
theorem shareF_env (R : EnvR K H σ ρ φ) : ∀ is : List Nat, EnvR K H σ (is.foldr (fun i ρ => shareE (some i) ρ) ρ) φ
  | [] => R
  | i :: is => (shareF_env R is).share (some i)
theorem shareF_own (R : EnvR K H σ ρ φ) {a : Addr} : ∀ is : List Nat, Own (is.foldr (fun i ρ => shareE (some i) ρ) ρ) φ a → Own ρ φ a
  | [], h => h
  | i :: is, h => shareF_own R is (own_share (o := some i) (shareF_env R is) h)
theorem shareF_okk (R : EnvR K H σ ρ φ) (ok : Okk ρ φ) : ∀ is : List Nat, Okk (is.foldr (fun i ρ => shareE (some i) ρ) ρ) φ
  | [] => ok
  | i :: is => okk_share (shareF_env R is) (shareF_okk R ok is) (some i)
theorem share_at (R : EnvR K H σ ρ φ) (ok : Okk ρ φ) {i : Nat} {f : List Addr} (hf : φ[i]? = some f) {a : Addr} (m : a ∈ f) (h : Own (shareE (some i) ρ) φ a) : False := by
  obtain ⟨j, d', k, e, ek, mk⟩ := h
  by_cases hj : i = j
  · subst hj
    simp only [shareE, List.getElem?_modify, if_true] at e
    obtain ⟨p, e1, e2⟩ := Option.map_eq_some_iff.mp e
    obtain ⟨b0, rfl, hb⟩ := shr_some e2
    obtain ⟨v, f', h1, h2, h3⟩ := R.at_ i b0 d' e1
    rw [ek] at h2; cases h2
    rw [(h3.fz hb.symm).1] at mk; cases mk
  · simp only [shareE, List.getElem?_modify, if_neg hj] at e
    have e' : ρ[j]? = some (some (true, d')) := by simpa using e
    exact (ok j d' k e' ek).2 i f hj hf a mk m
theorem shareF_no (R : EnvR K H σ ρ φ) (ok : Okk ρ φ) {a : Addr} {i : Nat} {f : List Addr} (hf : φ[i]? = some f) (m : a ∈ f) : ∀ is : List Nat, i ∈ is → ¬ Own (is.foldr (fun i ρ => shareE (some i) ρ) ρ) φ a
  | j :: is, hi, h => by
    rcases List.mem_cons.mp hi with z | z
    · subst z
      exact share_at (shareF_env R is) (shareF_okk R ok is) hf m h
    · exact shareF_no R ok hf m is z (own_share (o := some j) (shareF_env R is) h)
theorem shareL_env (R : EnvR K H σ ρ φ) (o : Option (List Nat)) : EnvR K H σ (shareL o ρ) φ := by
  cases o with
  | none => exact R.share none
  | some is => exact shareF_env R is
theorem shareL_okk (R : EnvR K H σ ρ φ) (ok : Okk ρ φ) (o : Option (List Nat)) : Okk (shareL o ρ) φ := by
  cases o with
  | none => exact okk_share R ok none
  | some is => exact shareF_okk R ok is
theorem shareL_own (R : EnvR K H σ ρ φ) {o : Option (List Nat)} {a : Addr} (h : Own (shareL o ρ) φ a) : Own ρ φ a := by
  cases o with
  | none => exact own_share (o := none) R h
  | some is => exact shareF_own R is h
/-- what is walked is not owned behind the sharing -/
theorem shareL_no (R : EnvR K H σ ρ φ) (ok : Okk ρ φ) {o : Option (List Nat)} {g : List Addr} (al : ∀ a ∈ g, H a = none ∨ ∃ f ∈ φ, a ∈ f) (as : AlS o H φ g) : ∀ a ∈ g, ¬ Own (shareL o ρ) φ a := fun a m h => by
  cases o with
  | none => exact share_all R h
  | some is =>
    rcases as is rfl a m with z | ⟨i, hi, f, hf, mf⟩
    · obtain ⟨f, hf, mf⟩ := (shareF_own R is h).mem
      exact R.tr f hf a mf z
    · exact shareF_no R ok hf mf is hi h
/-- what is not owned stands -/
theorem Aft.stand {g : List Addr} (A : Aft K H ρ φ H1 σ1 ρ1 φ1) (R : EnvR K H σ ρ φ) (no : ∀ a ∈ g, ¬ Own ρ φ a) : Stand g H H1 := by
  have key : ∀ {a : Addr}, Own ρ φ a → (∀ xs, H a ≠ some (.tup xs)) ∧ (∀ o xs, H a ≠ some (.frz o (lt xs))) ∧ ∀ ps, H a ≠ some (.tbl ps) := fun {a} ⟨i, d, f, e, ef, m⟩ => by
    obtain ⟨v, f', h1, h2, h3⟩ := R.at_ i true d e
    rw [ef] at h2; cases h2
    exact h3.obj a m
  exact ⟨fun a xs e => A.chg a _ e fun h => (key h).1 xs e, fun a o xs e => A.chg a _ e fun h => (key h).2.1 o xs e, fun a m o e => A.chg a o e (no a m), fun P ⟨ps, e, t⟩ => let ⟨qs, e2, t2⟩ := A.chg P _ e fun h => (key h).2.2 ps e; ⟨qs, e2, t2 t⟩⟩
/-- nor later -/
theorem Aft.no {g : List Addr} (A : Aft K H ρ φ H1 σ1 ρ1 φ1) (tr : ∀ a ∈ g, H a ≠ none) (no : ∀ a ∈ g, ¬ Own ρ φ a) : ∀ a ∈ g, ¬ Own ρ1 φ1 a := fun a m h => by
  rcases A.own a h with z | z
  · exact no a m z
  · exact tr a m z
end

section
variable {X : Cx} {cal : Nat → List (Bool × D) → Option (Bool × D)} {fu : Nat} {tg it c : Expr} {t : T} {src : I} {ec : E} {body : List Stmt} {ss : Ss} {pos : Pos}
/-- what is walked, under a premise of the slots and the heap -/
def tIxP (K : PySem.W.Frag) (f : Ev → Option (Bool × List D)) (o : Option (List Nat)) (P : L2.St → Hp → Prop) : TI := fun σ H R => ∃ ρ φ b ds, EnvR K H σ ρ φ ∧ f ρ = some (b, ds) ∧ P σ H ∧
  ∀ J H1 g, Same H H1 → Wk K J H1 ds g → (b = true → ∀ a ∈ g, H a = none) → (∀ a ∈ g, H a = none ∨ ∃ f ∈ φ, a ∈ f) → (∀ a ∈ g, H1 a ≠ none) → AlS o H φ g → R J H1
def tSP (K : PySem.W.Frag) (f : Ev → Option (Fl × Ev)) (P : L2.St → Hp → Prop) : TS := fun E σ H => ∃ ρ φ fl ρ', EnvR K H σ ρ φ ∧ Okk ρ φ ∧ f ρ = some (fl, ρ') ∧ P σ H ∧ Fins K E H ρ φ ρ' fl
def forF (cal : Nat → List (Bool × D) → Option (Bool × D)) (fu : Nat) (t : T) (f : Ev → Option (Bool × List D)) (o : Option (List Nat)) (ss : Ss) (ρ : Ev) : Option (Fl × Ev) := match f ρ with
  | none => none
  | some (b, ds) => forD (fun d ρ => setT t false d ρ) (fun ρ => exs cal fu ss ρ) ds (if b then ρ else shareL o ρ)
theorem S_foreP {fI : Ev → Option (Bool × List D)} {o : Option (List Nat)} {P : L2.St → Hp → Prop} (hp : PassesOwn (model X.prog X.w) X.A X.env X.xe) (hc : X.calm = true) (hi : PI X tg it (tIxP X.K fI o P)) (hg : QG X tg (namesT t) t) (hb : QSs X body (exs cal fu ss)) (hs : noSet it = true) : PS X (.For tg it body [] pos) (tSP X.K (forF cal fu t fI o ss) P) := by
  refine ps_imp (ps_for (wi := tIxP X.K fI o P) (g := tG X.K (namesT t) t) (tb := tS X.K (exs cal fu ss)) hp hc hi hg hb (folded_of hs)) fun E σ H ⟨ρ, φ, fl, ρ', R, ok, e, hP, q⟩ => ?_
  simp only [forF] at e
  split at e
  · cases e
  rename_i f ds e1
  refine ⟨ρ, φ, f, ds, R, e1, hP, fun J H1 gw s1 wk fr al tr as => ?_⟩
  -- the loop's own start
  have st : ∃ ρs, ρs = (if f then ρ else shareL o ρ) ∧ Aft X.K H ρ φ H1 σ ρs φ ∧ ∀ a ∈ gw, ¬ Own ρs φ a := by
    refine ⟨_, rfl, ?_⟩
    cases hf : f with
    | true =>
      refine ⟨Aft.quiet R ok s1, fun a m h => ?_⟩
      obtain ⟨k, hk, mk⟩ := h.mem
      exact R.tr k hk a mk (fr hf a m)
    | false =>
      refine ⟨⟨(shareL_env R _).same s1, shareL_okk R ok _, fun a o ea _ => s1 a o ea, fun a h z => h (s1.free z), fun a h => .inl (shareL_own R h), fun k hk a m => .inl ⟨k, hk, m⟩⟩, shareL_no R ok al as⟩
  obtain ⟨ρs, hρs, A0, no0⟩ := st
  have e' : forD (fun d ρ => setT t false d ρ) (fun ρ => exs cal fu ss ρ) ds ρs = some (fl, ρ') := by rw [hρs]; exact e
  refine ⟨fun i m σ' H' => m = ds.length - i ∧ i ≤ ds.length ∧ ∃ ρ1 φ1, Aft X.K H ρ φ H' σ' ρ1 φ1 ∧ Stand gw H1 H' ∧ (∀ a ∈ gw, ¬ Own ρ1 φ1 a) ∧ forD (fun d ρ => setT t false d ρ) (fun ρ => exs cal fu ss ρ) (ds.drop i) ρ1 = some (fl, ρ'),
    ⟨ds.length, by simp, Nat.zero_le _, ρs, φ, A0, Stand.refl, no0, e'⟩, ?_⟩
  rintro i m σ' H' ⟨rfl, hile, ρ1, φ1, A, sd, no1, er⟩
  obtain ⟨wst, wgo⟩ := wk i H' sd
  rcases Nat.lt_or_ge i ds.length with hlt | hge
  · have hx := List.getElem?_eq_getElem hlt
    obtain ⟨go, yl⟩ := wgo _ hx
    rw [drop_get hx] at er
    simp only [forD] at er
    refine .inr ⟨go, fun σ' H' => ∃ ρ1 φ1, Aft X.K H ρ φ H' σ' ρ1 φ1 ∧ Stand gw H1 H' ∧ (∀ a ∈ gw, ¬ Own ρ1 φ1 a) ∧ forD (fun d ρ => setT t false d ρ) (fun ρ => exs cal fu ss ρ) (ds.drop (i + 1)) ρ1 = some (fl, ρ'), fun σ'' H'' p => ⟨ds.length - (i + 1), by omega, rfl, hlt, p⟩, fun x H2 y => ?_⟩
    obtain ⟨g', s2, r2, hg'⟩ := yl x H2 y
    split at er
    · cases er
    rename_i ρ2 est
    refine ⟨ρ1, φ1, false, _, g', ρ2, A.env.same s2, r2, est, fun σ3 φ3 S => ?_⟩
    have A12 : Aft X.K H ρ φ H2 σ3 ρ2 φ3 := by
      refine ⟨S.env, S.okk A.okk (fun z => nomatch z) fun _ a m => no1 a (hg' a m), fun a o ea n => (A.chg a o ea n).trans fun o' e' => s2 a o' e', fun a h z => A.trk a h (s2.free z), fun a h => ?_, fun k hk a m => ?_⟩
      · rcases S.own a h with z | ⟨z, _⟩
        · exact A.own a z
        · cases z
      · rcases S.all k hk a m with ⟨f0, z1, z2⟩ | z
        · exact A.all f0 z1 a z2
        · exact (al a (hg' a z)).symm
    have no2 : ∀ a ∈ gw, ¬ Own ρ2 φ3 a := fun a m h => by
      rcases S.own a h with z | ⟨z, _⟩
      · exact no1 a m z
      · cases z
    have sd2 : Stand gw H1 H2 := sd.trans (Stand.same s2)
    have tr2 : ∀ a ∈ gw, H2 a ≠ none := fun a m => by
      cases hh : H1 a with
      | none => exact absurd hh (tr a m)
      | some o => exact (sd2.at_ a m o hh).ne
    have again : ∀ {H3 : Hp} {σ4 : L2.St} {φ4 : List (List Addr)} {ρ3 : Ev}, Aft X.K H2 ρ2 φ3 H3 σ4 ρ3 φ4 → Aft X.K H ρ φ H3 σ4 ρ3 φ4 ∧ Stand gw H1 H3 ∧ ∀ a ∈ gw, ¬ Own ρ3 φ4 a := fun B => ⟨A12.trans B, sd2.trans (B.stand A12.env no2), B.no tr2 no2⟩
    split at er
    · cases er
    · rename_i ρ3 eb
      exact ⟨ρ2, φ3, .next, ρ3, A12.env, A12.okk, eb, fun H3 σ4 φ4 B => let ⟨b1, b2, b3⟩ := again B; ⟨ρ3, φ4, b1, b2, b3, er⟩⟩
    · rename_i ρ3 eb
      exact ⟨ρ2, φ3, .cont, ρ3, A12.env, A12.okk, eb, fun H3 σ4 φ4 B => let ⟨b1, b2, b3⟩ := again B; ⟨ρ3, φ4, b1, b2, b3, er⟩⟩
    · rename_i ρ3 eb
      cases er
      exact ⟨ρ2, φ3, .brk, _, A12.env, A12.okk, eb, fun H3 σ4 φ4 B => q H3 σ4 φ4 (A12.trans B)⟩
    · rename_i b d ρ3 eb
      cases er
      exact ⟨ρ2, φ3, .ret b d, _, A12.env, A12.okk, eb, fun H3 v g B => q H3 v g (B.pre A12)⟩
  · have he : i = ds.length := by omega
    subst he
    rw [List.drop_length] at er
    simp only [forD, Option.some.injEq, Prod.mk.injEq] at er
    obtain ⟨rfl, rfl⟩ := er
    exact .inl ⟨wst rfl, q H' σ' φ1 A⟩
theorem S_fore (hp : PassesOwn (model X.prog X.w) X.A X.env X.xe) (hc : X.calm = true) (hi : QIx X tg it (evi cal src) (vnI src)) (hg : QG X tg (namesT t) t) (hb : QSs X body (exs cal fu ss)) (hs : noSet it = true) : QS X (.For tg it body [] pos) (exS cal fu (.fore t src ss)) := by
  refine ps_imp (S_foreP (P := fun _ _ => True) hp hc (pi_imp hi fun σ H R ⟨ρ, φ, b, ds, Rr, e, _, q⟩ => ⟨ρ, φ, b, ds, Rr, e, q⟩) hg hb hs) fun E σ H ⟨ρ, φ, fl, ρ', R, ok, e, q⟩ => ⟨ρ, φ, fl, ρ', R, ok, ?_, trivial, q⟩
  simp only [exS] at e
  exact e
theorem S_whil (hp : PassesOwn (model X.prog X.w) X.A X.env X.xe) (hc : QT X c (ev cal ec true)) (hb : QSs X body (exs cal fu ss)) : QS X (.While c body [] pos) (exS cal fu (.whil ec ss)) := by
  refine ps_imp (ps_while hp hc hb) fun E σ H ⟨ρ, φ, fl, ρ', R, ok, e, q⟩ => ?_
  simp only [exS] at e
  refine ⟨fun n σ' H' => ∃ ρ1 φ1, Aft X.K H ρ φ H' σ' ρ1 φ1 ∧ whD (fun ρ => ev cal ec true ρ) (fun ρ => exs cal fu ss ρ) n ρ1 = some (fl, ρ'), ⟨fu, ρ, φ, Aft.refl R ok, e⟩, ?_⟩
  rintro n σ1 H1 ⟨ρ1, φ1, A, er⟩
  cases n with
  | zero => cases er
  | succ n =>
    simp only [whD] at er
    split at er
    · rename_i p1 e1
      refine ⟨ρ1, φ1, p1, true, A.env, e1, fun H2 s => ?_⟩
      show ite (true = true) _ _
      rw [if_pos rfl]
      have A2 := A.trans (Aft.quiet A.env A.okk s)
      refine ⟨fun σ' H' => ∃ ρ1 φ1, Aft X.K H ρ φ H' σ' ρ1 φ1 ∧ whD (fun ρ => ev cal ec true ρ) (fun ρ => exs cal fu ss ρ) n ρ1 = some (fl, ρ'), fun σ' H' p => ⟨n, Nat.lt_succ_self n, p⟩, ?_⟩
      split at er
      · cases er
      · rename_i ρ3 eb
        exact ⟨ρ1, φ1, .next, ρ3, A2.env, A2.okk, eb, fun H3 σ4 φ4 B => ⟨ρ3, φ4, A2.trans B, er⟩⟩
      · rename_i ρ3 eb
        exact ⟨ρ1, φ1, .cont, ρ3, A2.env, A2.okk, eb, fun H3 σ4 φ4 B => ⟨ρ3, φ4, A2.trans B, er⟩⟩
      · rename_i ρ3 eb
        cases er
        exact ⟨ρ1, φ1, .brk, _, A2.env, A2.okk, eb, fun H3 σ4 φ4 B => q H3 σ4 φ4 (A2.trans B)⟩
      · rename_i b d ρ3 eb
        cases er
        exact ⟨ρ1, φ1, .ret b d, _, A2.env, A2.okk, eb, fun H3 v g B => q H3 v g (B.pre A2)⟩
    · rename_i p1 e1
      cases er
      refine ⟨_, φ1, p1, false, A.env, e1, fun H2 s => ?_⟩
      show ite (false = true) _ _
      rw [if_neg Bool.false_ne_true]
      exact q H2 σ1 φ1 (A.trans (Aft.quiet A.env A.okk s))
    · cases er
end
end Den

set_option Elab.async false
set_option linter.all false
set_option maxRecDepth 100000
/-! DenDk: dicts with written text keys, a written tuple's index, str. -/
namespace Den
open PySem PySem.Spec PyProof.Rows L2 RZ
section
variable {X : Cx} {cal : Nat → List (Bool × D) → Option (Bool × D)}
/-- written texts -/
def strsC : List Expr → Option (List Str)
  | [] => some []
  | .Constant (.str z) _ _ :: r => (strsC r).map (z :: ·)
  | _ :: _ => none
theorem strs_pa : ∀ {es : List Expr} {ks : List Str}, strsC es = some ks → PA X es (fun _ H Q => Q (ks.map V.str) H) ∧ es.all noStar = true
  | [], ks, h => by
    cases h
    exact ⟨pa_nil, rfl⟩
  | .Constant (.str z) j p :: r, ks, h => by
    obtain ⟨ks', h1, rfl⟩ := Option.map_eq_some_iff.mp (show (strsC r).map (z :: ·) = some ks from h)
    obtain ⟨h2, h3⟩ := strs_pa h1
    refine ⟨?_, by rw [List.all_cons, h3]; rfl⟩
    exact pa_cons pe_str h2 (star_of rfl)
theorem idx_some {ks : List Str} {z : Str} {j : Nat} (h : (ks.findIdx? fun k => decide (k = z)) = some j) : ks[j]? = some z ∧ ∀ m, m < j → ks[m]? ≠ some z := by
  obtain ⟨h1, h2, h3⟩ := List.findIdx?_eq_some_iff_getElem.mp h
  refine ⟨by rw [List.getElem?_eq_getElem h1, of_decide_eq_true h2], fun m hm e => ?_⟩
  have := h3 m hm
  obtain ⟨h4, h5⟩ := List.getElem?_eq_some_iff.mp e
  rw [h5] at this
  simp at this
theorem Q_tix {es : List Expr} {e : Expr} {ea : E} {ks : List Str} {x1 : Nat} {tp apos cpos : Pos} (h : strsC es = some ks) (he : QE X e (ev cal ea false)) (hs : noStar e = true) (hl : (apos.endLine == cpos.line) = true) : QE X (.Call (.Attribute (.Tuple es x1 tp) "index" apos) [e] [] cpos) (ev cal (.tix ks ea) false) := by
  refine pe_imp (pe_tix (strs_pa h).1 (te := tQ X.K (ev cal ea false)) (pa_cons he pa_nil (star_of hs)) (few_of hs) hl (star_of hs)) fun σ H Q ⟨ρ, φ, bb, d, R, e, q⟩ => ?_
  simp only [ev, fin, Bool.false_eq_true, if_false] at e
  split at e
  · rename_i p z e1
    split at e
    · rename_i hlen
      obtain ⟨j, hj, e2⟩ := Option.map_eq_some_iff.mp e
      cases e2
      obtain ⟨i1, i2⟩ := idx_some hj
      refine ⟨ks, rfl, hlen, fun p hp => ⟨ρ, φ, _, _, R.same (same_new hp), e1, fun v H2 g G => ⟨z, j, by rw [G.rep.s.1], G.same p _ upd_same, i1, i2, q _ H2 [] (Got.scalar ((same_new hp).trans G.same) (.int _))⟩⟩⟩
    · cases e
  · cases e
/-- a dict with written text keys -/
def keysC : List (Option Expr) → Option (List Str)
  | [] => some []
  | some (.Constant (.str z) _ _) :: r => (keysC r).map (z :: ·)
  | _ :: _ => none
def trsOf (X : Cx) (cal : Nat → List (Bool × D) → Option (Bool × D)) : List Str → Es → List (TE × TE)
  | k :: ks, .cons z zs => (tC (.str k), tQ X.K (ev cal z false)) :: trsOf X cal ks zs
  | _, _ => []
theorem reps_cons0 {K : PySem.W.Frag} {H : Hp} {v : V} {vs : List V} {d : D} {ds : List D} (r : Rep K H false v d []) (rs : Reps K H false vs ds []) : Reps K H false (v :: vs) (d :: ds) [] := Reps.cons (f := []) (fs := []) r rs
theorem pairs_read {σ : L2.St} {ρ : Ev} {φ : List (List Addr)} : ∀ {ks : List Str} {zs : Es} {ps : List (Bool × D)} {H : Hp} {Q : List (V × V) → Hp → Prop}, EnvR X.K H σ ρ φ → evs cal zs ρ = some ps → ks.length = ps.length → fzs (ps.map (·.2)) = true →
    (∀ vs H', Same H H' → Reps X.K H' false vs (ps.map (·.2)) [] → Q ((ks.map V.str).zip vs) H') → tPairs (trsOf X cal ks zs) σ H Q
  | [], .nil, ps, H, Q, R, e, hl, hf, q => by
    simp only [evs] at e
    cases e
    exact q [] H (Same.refl _) .nil
  | [], .cons z zs, ps, H, Q, R, e, hl, hf, q => by
    simp only [evs] at e
    split at e
    · cases e
    · split at e
      · cases e
      · cases e
        cases hl
  | k :: ks, .nil, ps, H, Q, R, e, hl, hf, q => by
    simp only [evs] at e
    cases e
    cases hl
  | k :: ks, .cons z zs, ps, H, Q, R, e, hl, hf, q => by
    simp only [evs] at e
    split at e
    · cases e
    · rename_i p e1
      split at e
      · cases e
      · rename_i ps' e2
        cases e
        have hf' := Bool.and_eq_true_iff.mp (show (fz p.2 && fzs (ps'.map (·.2))) = true from hf)
        refine ⟨ρ, φ, p.1, p.2, R, e1, fun v H1 g G => pairs_read (R.same G.same) e2 (by simpa using hl) hf'.2 fun vs H' s r => ?_⟩
        exact q (v :: vs) H' (G.same.trans s) (reps_cons0 (((G.rep.same s).fz hf'.1).2 false) r)
theorem put_new {kvs : List (Key × V)} {k : Key} {v : V} (h : k ∉ kvs.map (·.1)) : putK kvs k v = kvs ++ [(k, v)] := by
  unfold putK
  rw [if_neg]
  intro z
  obtain ⟨p, hp, e⟩ := List.any_eq_true.mp z
  exact h (List.mem_map.mpr ⟨p, hp, of_decide_eq_true e⟩)
theorem merge_nodup : ∀ {more kvs : List (Key × V)}, ((kvs ++ more).map (·.1)).Nodup → mergeK kvs more = kvs ++ more
  | [], kvs, _ => by rw [List.append_nil]; rfl
  | p :: r, kvs, h => by
    show mergeK (putK kvs p.1 p.2) r = _
    have h' := h
    rw [List.map_append, List.map_cons] at h'
    have hn : p.1 ∉ kvs.map (·.1) := fun m => (List.nodup_append.mp h').2.2 p.1 m p.1 (List.mem_cons_self ..) rfl
    rw [put_new hn]
    have e : kvs ++ p :: r = (kvs ++ [(p.1, p.2)]) ++ r := by rw [List.append_assoc]; rfl
    rw [e] at h ⊢
    exact merge_nodup h
end
end Den

set_option Elab.async false
set_option linter.all false
set_option maxRecDepth 100000
/-! DenFd: walks over dicts (locked while they are walked); a dict with one written tuple key. -/
namespace Den
open PySem PySem.Spec PyProof.Rows L2 RZ

/-- the heaps differ at a alone, where a dict stands, locked or not -/
structure Swp (a : Addr) (H H' : Hp) : Prop where
  ne : ∀ c, c ≠ a → H' c = H c
  tup : ∀ xs, H a ≠ some (.tup xs)
  lst : ∀ xs, ¬ Rd H a (.lst xs)
  ftp : ∀ o xs, H a ≠ some (.frz o (.tup xs))
  dk : ∀ kvs, Rd H a (.dK kvs) → Rd H' a (.dK kvs)
  dt : ∀ kvs, Rd H a (.dT kvs) → Rd H' a (.dT kvs)
  tb : ∀ ps, H a ≠ some (.tbl ps)
  some' : H' a ≠ none
def isDk : HO → Prop
  | .dK _ => True
  | .dT _ => True
  | _ => False
theorem Swp.lock {a : Addr} {H : Hp} {u : HO} {od : Obj} (h : H a = some u) (hu : isDk u) : Swp a H (upd H a (.frz od u)) := by
  refine ⟨fun c hc => upd_ne hc, fun xs e => ?_, fun xs e => ?_, fun o xs e => ?_, fun kvs e => ?_, fun kvs e => ?_, fun ps e => ?_, by rw [upd_same]; exact fun z => nomatch z⟩
  · rw [h] at e; cases e; exact hu
  · rcases e with e | ⟨o, e⟩
    · rw [h] at e; cases e; exact hu
    · rw [h] at e; cases e; exact hu
  · rw [h] at e; cases e; exact hu
  · rcases e with e | ⟨o, e⟩
    · rw [h] at e; cases e; exact .inr ⟨od, upd_same⟩
    · rw [h] at e; cases e; exact hu.elim
  · rcases e with e | ⟨o, e⟩
    · rw [h] at e; cases e; exact .inr ⟨od, upd_same⟩
    · rw [h] at e; cases e; exact hu.elim
  · rw [h] at e; cases e; exact hu
theorem Swp.unlock {a : Addr} {H : Hp} {u : HO} {od : Obj} (h : H a = some (.frz od u)) (hu : isDk u) : Swp a H (upd H a u) := by
  refine ⟨fun c hc => upd_ne hc, fun xs e => ?_, fun xs e => ?_, fun o xs e => ?_, fun kvs e => ?_, fun kvs e => ?_, fun ps e => ?_, by rw [upd_same]; exact fun z => nomatch z⟩
  · rw [h] at e; cases e
  · rcases e with e | ⟨o, e⟩
    · rw [h] at e; cases e
    · rw [h] at e; cases e; exact hu
  · rw [h] at e; cases e; exact hu
  · rcases e with e | ⟨o, e⟩
    · rw [h] at e; cases e
    · rw [h] at e; cases e; exact .inl upd_same
  · rcases e with e | ⟨o, e⟩
    · rw [h] at e; cases e
    · rw [h] at e; cases e; exact .inl upd_same
  · rw [h] at e; cases e
section
variable {K : PySem.W.Frag} {H H' : Hp} {a : Addr}
theorem Swp.lstAt (s : Swp a H H') {c : Addr} : ∀ {b : Bool} {us : List V}, LstAt H b c us → LstAt H' b c us
  | true, us, h => by
    by_cases e : c = a
    · subst e; exact absurd (.inl h) (s.lst us)
    · exact (s.ne c e).trans h
  | false, us, h => by
    by_cases e : c = a
    · subst e; exact absurd h (s.lst us)
    · rcases h with h | ⟨o, h⟩
      · exact .inl ((s.ne c e).trans h)
      · exact .inr ⟨o, (s.ne c e).trans h⟩
theorem Swp.rd (s : Swp a H H') {c : Addr} {u : HO} (e : c ≠ a) (h : Rd H c u) : Rd H' c u := by
  rcases h with h | ⟨o, h⟩
  · exact .inl ((s.ne c e).trans h)
  · exact .inr ⟨o, (s.ne c e).trans h⟩
theorem Swp.dkAt (s : Swp a H H') {c : Addr} : ∀ {b : Bool} {us : List (Key × V)}, (b = true → c ≠ a) → DkAt H b c us → DkAt H' b c us
  | true, us, n, h => (s.ne c (n rfl)).trans h
  | false, us, _, h => by
    by_cases e : c = a
    · subst e; exact s.dk us h
    · exact s.rd e h
theorem Swp.dtAt (s : Swp a H H') {c : Addr} : ∀ {b : Bool} {us : List (List Key × V)}, (b = true → c ≠ a) → DtAt H b c us → DtAt H' b c us
  | true, us, n, h => (s.ne c (n rfl)).trans h
  | false, us, _, h => by
    by_cases e : c = a
    · subst e; exact s.dt us h
    · exact s.rd e h
theorem Swp.tupAt (s : Swp a H H') {c : Addr} {xs : List V} (h : H c = some (.tup xs)) : H' c = some (.tup xs) := by
  by_cases e : c = a
  · subst e; exact absurd h (s.tup xs)
  · exact (s.ne c e).trans h
theorem Swp.frzT (s : Swp a H H') {c : Addr} {o : Obj} {xs : List V} (h : H c = some (.frz o (.tup xs))) : H' c = some (.frz o (.tup xs)) := by
  by_cases e : c = a
  · subst e; exact absurd h (s.ftp o xs)
  · exact (s.ne c e).trans h
theorem Swp.scr (s : Swp a H H') {c : Addr} {xs : List V} (h : ScrAt K H c xs) : ScrAt K H' c xs := by
  refine h.imp (fun ⟨o, q⟩ => ⟨o, ?_⟩) id
  by_cases e : c = a
  · subst e; exact absurd (.inr ⟨o, q⟩) (s.lst xs)
  · exact (s.ne c e).trans q
mutual
theorem Rep.swp (s : Swp a H H') {b : Bool} : ∀ {v : V} {d : D} {f : List Addr}, (b = true → a ∉ f) → Rep K H b v d f → Rep K H' b v d f
  | _, _, _, _, .non => .non
  | _, _, _, _, .bl c => .bl c
  | _, _, _, _, .int i => .int i
  | _, _, _, _, .str x => .str x
  | _, _, _, n, .tup h r => .tup (s.tupAt h) (Reps.swp s n r)
  | _, _, _, n, .lst h r => .lst (s.lstAt h) (Reps.swp s (fun z m => n z (List.mem_cons_of_mem _ m)) r)
  | _, _, _, _, .scr e h => .scr e (s.scr h)
  | _, _, _, _, .box e h n => .box e (s.frzT h) n
  | _, _, _, n, .dic h e r => .dic (s.dkAt (fun z y => n z (y ▸ List.mem_cons_self)) h) e (Reps.swp s (fun z m => n z (List.mem_cons_of_mem _ m)) r)
  | _, _, _, n, .dit h e r => .dit (s.dtAt (fun z y => n z (y ▸ List.mem_cons_self)) h) e (Reps.swp s (fun z m => n z (List.mem_cons_of_mem _ m)) r)
theorem Reps.swp (s : Swp a H H') {b : Bool} : ∀ {v : List V} {d : List D} {f : List Addr}, (b = true → a ∉ f) → Reps K H b v d f → Reps K H' b v d f
  | _, _, _, _, .nil => .nil
  | _, _, _, n, .cons r rs => .cons (Rep.swp s (fun z m => n z (List.mem_append_left _ m)) r) (Reps.swp s (fun z m => n z (List.mem_append_right _ m)) rs)
end
theorem Swp.trk (s : Swp a H H') {c : Addr} (h : H c ≠ none) : H' c ≠ none := by
  by_cases e : c = a
  · subst e; exact s.some'
  · rw [s.ne c e]; exact h
theorem Swp.tab (s : Swp a H H') {P : Addr} (h : GxR.TabG H P) : GxR.TabG H' P := by
  obtain ⟨ps, e, ok⟩ := h
  refine ⟨ps, ?_, ok⟩
  by_cases z : P = a
  · subst z; exact absurd e (s.tb ps)
  · exact (s.ne P z).trans e
theorem EnvR.swp {σ : L2.St} {ρ : Ev} {φ : List (List Addr)} (R : EnvR K H σ ρ φ) (s : Swp a H H') (no : ¬ Own ρ φ a) : EnvR K H' σ ρ φ := by
  refine ⟨R.l1, R.l2, fun i b d e => ?_, fun f hf c m => s.trk (R.tr f hf c m), fun c P h n => s.tab (R.tb c P h n)⟩
  obtain ⟨v, f, h1, h2, h3⟩ := R.at_ i b d e
  refine ⟨v, f, h1, h2, h3.swp s fun z m => no ?_⟩
  subst z
  exact ⟨i, d, f, e, h2, m⟩
end
section
variable {K : PySem.W.Frag} {H H' : Hp} {σ σ' : L2.St} {ρ ρ' : Ev} {φ φ' : List (List Addr)} {a : Addr} {u : HO} {od : Obj} {i : Nat}
/-- locked, walked, unlocked -/
theorem Aft.unlock (R : EnvR K H σ ρ φ) (hu : isDk u) (h : H a = some u) (no : ¬ Own (shareE (some i) ρ) φ a) (B : Aft K (upd H a (.frz od u)) (shareE (some i) ρ) φ H' σ' ρ' φ') : H' a = some (.frz od u) ∧ Aft K H ρ φ (upd H' a u) σ' ρ' φ' := by
  have e : H' a = some (.frz od u) := (B.chg a _ upd_same no).eq fun ps z => nomatch z
  have nb : ∀ c, upd H a (.frz od u) c = none → H c = none := fun c z => by
    by_cases y : c = a
    · subst y; rw [upd_same] at z; cases z
    · rw [upd_ne y] at z; exact z
  have no' : ¬ Own ρ' φ' a := fun z => by
    rcases B.own a z with y | y
    · exact no y
    · rw [upd_same] at y; cases y
  have s := Swp.unlock e hu
  refine ⟨e, ⟨B.env.swp s no', B.okk, fun c o ec n => ?_, fun c hc => ?_, fun c hc => ?_, fun f hf c m => ?_⟩⟩
  · by_cases y : c = a
    · subst y
      rw [upd_same]
      rw [h] at ec
      exact .of ec
    · rw [upd_ne y]
      exact B.chg c o ((upd_ne y).trans ec) fun z => n (own_share R z)
  · exact s.trk (B.trk c ((Swp.lock (od := od) h hu).trk hc))
  · rcases B.own c hc with z | z
    · exact .inl (own_share R z)
    · exact .inr (nb c z)
  · rcases B.all f hf c m with z | z
    · exact .inl z
    · exact .inr (nb c z)
theorem AftR.unlock {b : Bool} {v : V} {d : D} {g : List Addr} (R : EnvR K H σ ρ φ) (hu : isDk u) (h : H a = some u) (no : ¬ Own (shareE (some i) ρ) φ a) (B : AftR K (upd H a (.frz od u)) (shareE (some i) ρ) φ H' b v d g) : H' a = some (.frz od u) ∧ AftR K H ρ φ (upd H' a u) b v d g := by
  have e : H' a = some (.frz od u) := (B.chg a _ upd_same no).eq fun ps z => nomatch z
  have nb : ∀ c, upd H a (.frz od u) c = none → H c = none := fun c z => by
    by_cases y : c = a
    · subst y; rw [upd_same] at z; cases z
    · rw [upd_ne y] at z; exact z
  have s := Swp.unlock e hu
  refine ⟨e, ⟨fun c o ec n => ?_, fun c hc => ?_, B.rep.swp s fun z m => ?_, B.nd, fun c m => ?_⟩⟩
  · by_cases y : c = a
    · subst y
      rw [upd_same]
      rw [h] at ec
      exact .of ec
    · rw [upd_ne y]
      exact B.chg c o ((upd_ne y).trans ec) fun z => n (own_share R z)
  · exact s.trk (B.trk c ((Swp.lock (od := od) h hu).trk hc))
  · rcases B.org a m with y | y | ⟨y, _⟩
    · rw [upd_same] at y; cases y
    · exact no y
    · rw [z] at y; cases y
  · rcases B.org c m with y | y | y
    · exact .inl (nb c y)
    · exact .inr (.inl (own_share R y))
    · exact .inr (.inr y)
theorem Fins.lock {E : Ends} {fl : Fl} {ρ2 : Ev} (R : EnvR K H σ ρ φ) (hu : isDk u) (h : H a = some u) (no : ¬ Own (shareE (some i) ρ) φ a) (q : Fins K E H ρ φ ρ2 fl) :
    Fins K ⟨fun σ' H' => H' a = some (.frz od u) ∧ E.nx σ' (upd H' a u), fun v H' => H' a = some (.frz od u) ∧ E.rt v (upd H' a u), fun σ' H' => H' a = some (.frz od u) ∧ E.bk σ' (upd H' a u), fun σ' H' => H' a = some (.frz od u) ∧ E.ct σ' (upd H' a u)⟩ (upd H a (.frz od u)) (shareE (some i) ρ) φ ρ2 fl := by
  cases fl with
  | next => exact fun H2 σ2 φ2 B => let ⟨e, A⟩ := B.unlock R hu h no; ⟨e, q _ _ _ A⟩
  | brk => exact fun H2 σ2 φ2 B => let ⟨e, A⟩ := B.unlock R hu h no; ⟨e, q _ _ _ A⟩
  | cont => exact fun H2 σ2 φ2 B => let ⟨e, A⟩ := B.unlock R hu h no; ⟨e, q _ _ _ A⟩
  | ret b d => exact fun H2 v g B => let ⟨e, A⟩ := B.unlock R hu h no; ⟨e, q _ _ _ A⟩
theorem share_idem (i : Nat) (ρ : Ev) : shareE (some i) (shareE (some i) ρ) = shareE (some i) ρ := by
  apply List.ext_getElem?
  intro j
  simp only [shareE, List.getElem?_modify]
  by_cases hj : i = j
  · simp only [if_pos hj]
    cases ρ[j]? with
    | none => rfl
    | some p => cases p <;> rfl
  · simp only [if_neg hj]
    simp
theorem keys_share (i : Nat) (ρ : Ev) : keysAt i (shareE (some i) ρ) = keysAt i ρ := by
  have e : (shareE (some i) ρ)[i]? = (ρ[i]?).map shr := by simp only [shareE, List.getElem?_modify, if_true]; rfl
  unfold keysAt getD?
  rw [e]
  cases ρ[i]? with
  | none => rfl
  | some p =>
    cases p with
    | none => rfl
    | some q => obtain ⟨b, d⟩ := q; cases d <;> rfl
end
/-- what stands in slot i is locked -/
def LockAt (i : Nat) (σ : L2.St) (H : Hp) : Prop := ∃ a od u, σ[i]? = some (some (.ref a)) ∧ H a = some (.frz od u)
def keysF (i : Nat) (ρ : Ev) : Option (Bool × List D) := (keysAt i ρ).map fun ds => (false, ds)
theorem ent_t (es : List (D × D)) : ent ((.none, .none) :: es) = es := rfl
theorem ent_k {ds : List (D × D)} (h : tk ds = false) : ent ds = ds := by unfold ent; rw [h]; rfl
theorem keysAt_of {i : Nat} {ρ : Ev} {ds : List D} (h : keysAt i ρ = some ds) : ∃ b kvs, ρ[i]? = some (some (b, .dict kvs)) ∧ scrOf kvs = none ∧ ds = (ent kvs).map (·.1) := by
  unfold keysAt getD? at h
  split at h
  · rename_i b kvs h1
    split at h
    · rename_i h2
      cases h
      split at h1
      · rename_i p h3
        cases h1
        exact ⟨b, kvs, h3, h2, rfl⟩
      · cases h1
    · cases h
  · cases h
theorem rep_kV {K : PySem.W.Frag} {H : Hp} {b : Bool} (k : Key) : Rep K H b (kV k) (kD k) [] := by
  cases k with
  | inl i => exact .int i
  | inr x => exact .str x
theorem reps_kV {K : PySem.W.Frag} {H : Hp} {b : Bool} : ∀ ks : List Key, Reps K H b (ks.map kV) (ks.map kD) []
  | [] => .nil
  | k :: r => Reps.cons (f := []) (fs := []) (rep_kV k) (reps_kV r)
section
variable {X : Cx} {cal : Nat → List (Bool × D) → Option (Bool × D)} {fu : Nat} {tg : Expr} {t : T} {i : Nat} {x : Str} {px : Pos} {body : List Stmt} {ss : Ss} {pos : Pos}
theorem QIP_keys (hx : PE X (.Name x px) (tVar i)) : PI X tg (.Name x px) (tIxP X.K (keysF i) (some [i]) (LockAt i)) := by
  refine pi_imp (pi_keys hx) fun σ H R ⟨ρ, φ, b, ds, Rr, e, ⟨a, od, u, hσ, hfr⟩, q⟩ => ?_
  obtain ⟨ds', e1, e2⟩ := Option.map_eq_some_iff.mp e
  cases e2
  obtain ⟨b0, kvs, h1, h2, rfl⟩ := keysAt_of e1
  obtain ⟨v, f, g1, g2, g3⟩ := Rr.at_ i b0 _ h1
  rw [hσ] at g1
  cases g1
  have hal : ∀ {fs : List Addr}, f = a :: fs → (∀ c ∈ f, H c = none ∨ ∃ f0 ∈ φ, c ∈ f0) := fun _ c m => .inr ⟨f, List.mem_of_getElem? g2, m⟩
  have has : AlS (some [i]) H φ f := fun is z c m => by
    cases z
    exact .inr ⟨i, List.mem_singleton_self _, f, g2, m⟩
  have fin : ∀ J, Wk X.K J H ((ent kvs).map (·.1)) f → R J H := fun J w => q J H f (Same.refl _) w (fun z => nomatch z) (fun c m => .inr ⟨f, List.mem_of_getElem? g2, m⟩) (fun c m => Rr.tr f (List.mem_of_getElem? g2) c m) has
  refine ⟨.ref a, hσ, a, od, rfl, ?_⟩
  rcases g3.dn h2 with ⟨a', us, fs, ev, htk, hat, hk, hr, hf⟩ | ⟨a', us, es, fs, ev, hds, hat, hk, hr, hf⟩
  · cases ev
    have hu : u = .dK us := by
      rcases hat.rd with z | ⟨o, z⟩
      · rw [hfr] at z; cases z
      · rw [hfr] at z; cases z; rfl
    subst hu
    refine .inl ⟨us, hfr, fin _ ?_⟩
    rw [ent_k htk, ← hk]
    intro j H' s
    have h' : H' a = some (.frz od (.dK us)) := (s.at_ a (by rw [hf]; exact List.mem_cons_self) _ hfr).eq fun ps z => nomatch z
    rw [List.length_map]
    refine ⟨fun hl => ⟨h', Nat.le_of_eq hl.symm⟩, fun d hd => ?_⟩
    rw [List.getElem?_map] at hd
    obtain ⟨⟨k, v⟩, hd1, rfl⟩ := Option.map_eq_some_iff.mp hd
    refine ⟨⟨h', (List.getElem?_eq_some_iff.mp hd1).1⟩, fun y H'' ⟨y1, k', v', y2, y3⟩ => ?_⟩
    rw [hd1] at y2
    cases y2
    subst y1 y3
    exact ⟨[], Same.refl _, rep_kV k, fun c m => nomatch m⟩
  · cases ev
    have hu : u = .dT us := by
      rcases hat.rd with z | ⟨o, z⟩
      · rw [hfr] at z; cases z
      · rw [hfr] at z; cases z; rfl
    subst hu hds
    refine .inr ⟨us, hfr, fin _ ?_⟩
    rw [ent_t, ← hk]
    intro j H' s
    have h' : H' a = some (.frz od (.dT us)) := (s.at_ a (by rw [hf]; exact List.mem_cons_self) _ hfr).eq fun ps z => nomatch z
    rw [List.length_map]
    refine ⟨fun hl => ⟨h', Nat.le_of_eq hl.symm⟩, fun d hd => ?_⟩
    rw [List.getElem?_map] at hd
    obtain ⟨⟨k, v⟩, hd1, rfl⟩ := Option.map_eq_some_iff.mp hd
    refine ⟨⟨h', (List.getElem?_eq_some_iff.mp hd1).1⟩, fun y H'' ⟨y1, k', v', p, y2, y3, y4⟩ => ?_⟩
    rw [hd1] at y2
    cases y2
    subst y1 y3
    exact ⟨[], Same.refl _, .tup y4 (reps_kV k), fun c m => nomatch m⟩
theorem S_ford (hp : PassesOwn (model X.prog X.w) X.A X.env X.xe) (hc : X.calm = true) (hx : PE X (.Name x px) (tVar i)) (hg : QG X tg (namesT t) t) (hb : QSs X body (exs cal fu ss)) : QS X (.For tg (.Name x px) body [] pos) (exS cal fu (.ford t i ss)) := by
  have h1 : PS X (.For tg (.Name x px) body [] pos) (tSP X.K (forF cal fu t (keysF i) (some [i]) ss) (LockAt i)) := S_foreP hp hc (QIP_keys hx) hg hb rfl
  have h2 := ps_lock h1
  refine ⟨fun pins s σ H E I ⟨ρ, φ, fl, ρ', R, ok, e, q⟩ => ?_⟩
  simp only [exS] at e
  split at e
  · cases e
  rename_i ds e1
  obtain ⟨b0, kvs, k1, k2, rfl⟩ := keysAt_of e1
  obtain ⟨v, f, g1, g2, g3⟩ := R.at_ i b0 _ k1
  have key : ∃ a u fs, v = .ref a ∧ f = a :: fs ∧ isDk u ∧ Rd H a u := by
    rcases g3.dn k2 with ⟨a', us, fs, ev, htk, hat, hk, hr, hf⟩ | ⟨a', us, es, fs, ev, hds, hat, hk, hr, hf⟩
    · exact ⟨a', .dK us, fs, ev, hf, trivial, hat.rd⟩
    · exact ⟨a', .dT us, fs, ev, hf, trivial, hat.rd⟩
  obtain ⟨a, u, fs, rfl, rfl, hu, hrd⟩ := key
  rcases hrd with hH | ⟨od, hH⟩
  · refine h2.run pins s σ H E I ⟨a, u, hH, ?_, fun od => ?_⟩
    · cases u <;> first | exact hu.elim | trivial
    have no := share_at R ok g2 (a := a) List.mem_cons_self
    refine ⟨shareE (some i) ρ, φ, fl, ρ', (R.share (some i)).swp (Swp.lock hH hu) no, okk_share R ok (some i), ?_, ⟨a, od, u, g1, upd_same⟩, Fins.lock R hu hH no q⟩
    simp only [forF, keysF, keys_share, e1, Option.map_some]
    show forD _ _ _ (shareE (some i) (shareE (some i) ρ)) = _
    rw [share_idem]
    exact e
  · refine h1.run pins s σ H E I ⟨ρ, φ, fl, ρ', R, ok, ?_, ⟨a, od, u, g1, hH⟩, q⟩
    simp only [forF, keysF, e1, Option.map_some]
    exact e
end
/-! ### a dict with one written tuple key -/
section
variable {X : Cx} {cal : Nat → List (Bool × D) → Option (Bool × D)} {k v : Expr} {tk tv : TE} {ek ea : E} {pos : Pos}
theorem pe_disp1T (hu : X.A.units + 1 < cLine) (hk : PE X k tk) (hv : PE X v tv) : PE X (.Dict [some k] [v] pos) (fun σ H Q => ∀ p, H p = none → tk σ (upd H p (.dT [])) fun x H1 => tv σ H1 fun y H2 => H2 p = some (.dT []) ∧ ∃ (b : Addr) (ks : List Key), x = .ref b ∧ H2 b = some (.tup (ks.map kV)) ∧ Q (.ref p) (upd H2 p (.dT [(ks, y)]))) := by
  refine ⟨fun pins s σ H Q I q => ?_⟩
  have hn := I.hok.fresh (Nat.le_refl s.heap.objs.size)
  have I1 := I.laid (a := s.heap.objs.size) (o := .dT []) (h' := s.heap.push { cls := .type "dict", data := .dict #[] }) (t' := s.toks) (fun _ _ q => Heap.get?_push_of_some _ q) (Nat.le_refl _) (dt_empty s.heap I.big)
  rw [arm_eval_Dict, zip_pairTrees [some k] [v] X.env pos rfl rfl, dictDisplay_pairs _ (by simp [pairTrees]) (by simp [pairTrees])]
  refine wpAny_bind (wpAny_standAt (wpAny_bind ?_))
  unfold subDict
  refine wpAny_bind (wpAny_alloc ?_)
  refine wpAny_bind (wpAny_holding ?_)
  rw [if_pos (by simp [pairTrees])]
  refine wpAny_bind (pairTrees_cons_walk (thn (hk.run pins _ σ _ _ I1 (q _ hn)) fun kv s1 ⟨x, H1, I2, rx, q1⟩ => thn (hv.run pins s1 σ H1 _ I2 q1) fun vv s2 ⟨y, H2, I3, ry, hp, b, ks, ex, hb, q2⟩ => pairTrees_nil_walk ?_))
  subst ex
  cases (show kv = Value.ref b from rx)
  refine wpAny_holding ?_
  rw [List.forIn_cons]
  obtain ⟨z, hd, xs, rel, dd⟩ := dt_of I3.hok hp
  cases rel
  refine wpAny_bind (wpAny_bind (wpAny_bind (wpAny_dictSet_heap (hsz := Nat.zero_le _) (show X.A.units < cLine by omega) (key_of I3.hok hb) dd fun h' dd' hs => wpAny_pure ?_)))
  show wpAny _ _ (forIn [] PUnit.unit _) _ _ _
  rw [List.forIn_nil]
  refine wpAny_pure (wpAny_pure (wpAny_pure (wpAny_pure ?_)))
  obtain ⟨o, es, ep, hq, c2, c3, c4, _, c5⟩ := dd'
  refine ⟨.ref s.heap.objs.size, upd H2 s.heap.objs.size (.dT [(ks, y)]), d_write (ob := .dT [(ks, y)]) I3 (by rw [hp]; exact True.intro) hs ⟨o, hq⟩ ⟨?_, hd, _, (Paired.cons ⟨rfl, ?_, ry⟩ .nil), o, es, ep, hq, c2, c3, c4, c5⟩, rfl, q2⟩
  · rw [sizeLine_eq]; simp
  · rw [upd_ne (ne_of hb hp (fun z => nomatch z))]
    exact hb
theorem Q_dt1 (hu : X.A.units + 1 < cLine) (hk : QE X k (ev cal ek false)) (hv : QE X v (ev cal ea false)) : QE X (.Dict [some k] [v] pos) (ev cal (.dt1 ek ea) false) := by
  refine pe_imp (pe_disp1T hu hk hv) fun σ H Q ⟨ρ, φ, bb, d, R, e, q⟩ => ?_
  simp only [ev, fin, Bool.false_eq_true, if_false] at e
  split at e
  · rename_i b1 ks e1
    split at e
    · rename_i b2 d' e2
      split at e
      · rename_i hc
        cases e
        intro p hp
        refine ⟨ρ, φ, b1, _, R.same (same_new hp), e1, fun v1 H1 g1 G1 => ⟨ρ, φ, b2, _, (R.same (same_new hp)).same G1.same, e2, fun v2 H2 g2 G2 => ?_⟩⟩
        have h1 : H1 p = some (.dT []) := G1.same p _ upd_same
        have h2 : H2 p = some (.dT []) := G2.same p _ h1
        obtain ⟨b, xs, rfl, hb, rb⟩ := G1.rep.t
        obtain ⟨κ, hκ, rfl⟩ := rb.keys hc.1
        have hb2 : H2 b = some (.tup (κ.map kV)) := G2.same b _ hb
        refine ⟨h2, b, κ, rfl, hb2, ?_⟩
        have rv : Rep X.K (upd H2 p (.dT [(κ, v2)])) true v2 d' [] := ((G2.rep.fz hc.2).2 true).keep (fun a xs ea => by rw [upd_ne (fun z => by rw [z, h2] at ea; cases ea)]; exact ea) (fun a o xs ea => by rw [upd_ne (fun z => by rw [z, h2] at ea; cases ea)]; exact ea) fun a m => nomatch m
        refine q _ _ [p] ⟨fun a o ea => ?_, .dit (b := true) (kvs := [(κ, v2)]) (fs := []) upd_same (by rw [hκ]; rfl) (Reps.one rv), fun _ => ⟨by simp, fun a m => by rw [List.mem_singleton.mp m]; exact hp⟩, fun a m => .inl (by rw [List.mem_singleton.mp m]; exact hp)⟩
        have hne2 : a ≠ p := fun z => by rw [z, hp] at ea; cases ea
        rw [upd_ne hne2]
        have s1 := same_new (o := HO.dT []) hp a o ea
        exact (s1.trans fun o' h => G1.same a o' h).trans fun o' h => G2.same a o' h
      · cases e
    · cases e
  · cases e
end
end Den

set_option Elab.async false
set_option linter.all false
set_option maxRecDepth 100000
/-! DenFe: truth of a dict, a comprehension over a dict, a[i] += e on lists. -/
namespace Den
open PySem PySem.Spec PyProof.Rows L2 RZ
section
variable {X : Cx} {cal : Nat → List (Bool × D) → Option (Bool × D)} {fu : Nat} {i : Nat} {x : Str} {px pos : Pos}
theorem T_dtr (hx : PE X (.Name x px) (tVar i)) : QT X (.Name x px) (ev cal (.dtr i) true) := by
  refine pt_imp (pt_truth hx fun _ => rfl) fun σ H Q ⟨ρ, φ, bb, k, R, e, q⟩ => ?_
  simp only [ev, fin, if_true] at e
  split at e
  · cases e
  rename_i p e0
  split at e0
  · rename_i kvs hp
    split at e0
    · rename_i hc
      cases e0
      simp only [truD, Option.map_some, Option.some.injEq, Prod.mk.injEq, PyData.bool.injEq] at e
      obtain ⟨_, rfl⟩ := e
      obtain ⟨v, f, h1, h2, h3⟩ := R.at_ _ _ _ hp
      rcases h3.dn hc.1 with ⟨a, us, fs, rfl, _, hat, hk, _, _⟩ | ⟨a, us, es, fs, _, hds, _⟩
      · refine ⟨_, h1, _, .inr (.inr ⟨us, hat, rfl⟩), ?_⟩
        have hl := congrArg List.length hk
        rw [List.length_map, List.length_map] at hl
        have : (!us.isEmpty) = !kvs.isEmpty := by
          cases us <;> cases kvs <;> simp_all
        rw [this]
        exact q H (Same.refl _)
      · rw [hds] at hc
        exact absurd hc.2 (by simp [tk])
    · cases e0
  · cases e0
/-! ### a comprehension over a dict -/
theorem QIP_keys2 {tg : Expr} (hx : PE X (.Name x px) (tVar i)) : PI X tg (.Name x px) (tIP X.K (keysF i) (LockAt i)) :=
  pi_imp (QIP_keys hx) fun σ H R ⟨ρ, φ, b, ds, Rr, e, hP, q⟩ => ⟨ρ, φ, b, ds, Rr, e, hP, fun J H1 g s w fr al tr _ => q J H1 g s w fr al tr⟩
theorem Got.unlock {K : PySem.W.Frag} {H H' : Hp} {φ : List (List Addr)} {a : Addr} {u : HO} {od : Obj} {b : Bool} {v : V} {d : D} {g : List Addr} (hu : isDk u) (h : H a = some u) (G : Got K (upd H a (.frz od u)) H' φ b v d g) : H' a = some (.frz od u) ∧ Got K H (upd H' a u) φ b v d g := by
  have e : H' a = some (.frz od u) := (G.same a _ upd_same).eq fun ps z => nomatch z
  have nb : ∀ c, upd H a (.frz od u) c = none → H c = none := fun c z => by
    by_cases y : c = a
    · subst y; rw [upd_same] at z; cases z
    · rw [upd_ne y] at z; exact z
  refine ⟨e, ⟨fun c o ec => ?_, G.rep.swp (Swp.unlock e hu) fun z m => ?_, fun z => ⟨(G.fr z).1, fun c m => nb c ((G.fr z).2 c m)⟩, fun c m => (G.al c m).imp (nb c) id⟩⟩
  · by_cases y : c = a
    · subst y
      rw [upd_same]
      rw [h] at ec
      exact .of ec
    · rw [upd_ne y]
      exact G.same c o ((upd_ne y).trans ec)
  · have := (G.fr z).2 a m
    rw [upd_same] at this
    cases this
theorem keys_shareN (i : Nat) (ρ : Ev) : keysAt i (shareE none ρ) = keysAt i ρ := by
  have e : (shareE none ρ)[i]? = (ρ[i]?).map shr := by simp only [shareE, List.getElem?_map]
  unfold keysAt getD?
  rw [e]
  cases ρ[i]? with
  | none => rfl
  | some p =>
    cases p with
    | none => rfl
    | some q => obtain ⟨b, d⟩ := q; cases d <;> rfl
theorem Q_lcd {elt tg : Expr} {ifs : List Expr} {scope : Scope} {own : List (Str × Nat)} {eE : E} {t : T} {eifs : Eo} (hc : X.calm = true) (hN : X.N.Nodup) (hx : PE X (.Name x px) (tVar i)) (ok : BlkOk X.N X.env.scope scope own)
    (hg : ∀ (s : Shared) (H : Hp) (C : Addr) (cl : List (Str × Addr)) (fp : List Addr), QG (X.blk s H scope (compEnvC scope cl C X.env) fp) tg (own.map (·.2)) t) (ht : ∀ (s : Shared) (H : Hp) (C : Addr) (cl : List (Str × Addr)) (fp : List Addr), QTs (X.blk s H scope (compEnvC scope cl C X.env) fp) ifs (evt cal eifs))
    (he : ∀ (s : Shared) (H : Hp) (C : Addr) (cl : List (Str × Addr)) (fp : List Addr), QE (X.blk s H scope (compEnvC scope cl C X.env) fp) elt (ev cal eE false)) : QE X (.ListComp elt [⟨tg, .Name x px, ifs, 0⟩] scope pos) (ev cal (.lcd eE t i eifs (own.map (·.2))) false) := by
  have h1 := pe_lc (pos := pos) (wi := tIP X.K (keysF i) (LockAt i)) (g := tG X.K (own.map fun p : Str × Nat => p.2) t) (tt := tT X.K (evt cal eifs)) (te := tQ X.K (ev cal eE false)) hc hN (QIP_keys2 hx) ok hg ht he (folded_of rfl)
  have h2 := pe_lock h1
  refine ⟨fun pins s σ H Q I ⟨ρ, φ, bb, d, R, e, q⟩ => ?_⟩
  simp only [ev, fin, Bool.false_eq_true, if_false] at e
  split at e
  · cases e
  rename_i xs e1
  have eF : lcVF cal (keysF i) eE t eifs (own.map (·.2)) (shareE none ρ) = some (bb, d) := by
    unfold lcVF
    simp only [keysF, keys_shareN, e1, Option.map_some]
    exact e
  obtain ⟨b0, kvs, k1, k2, rfl⟩ := keysAt_of e1
  obtain ⟨v, f, g1, g2, g3⟩ := R.at_ i b0 _ k1
  have key : ∃ a u fs, v = .ref a ∧ f = a :: fs ∧ isDk u ∧ Rd H a u := by
    rcases g3.dn k2 with ⟨a', us, fs, ev, htk, hat, hk, hr, hf⟩ | ⟨a', us, es, fs, ev, hds, hat, hk, hr, hf⟩
    · exact ⟨a', .dK us, fs, ev, hf, trivial, hat.rd⟩
    · exact ⟨a', .dT us, fs, ev, hf, trivial, hat.rd⟩
  obtain ⟨a, u, fs, rfl, rfl, hu, hrd⟩ := key
  rcases hrd with hH | ⟨od, hH⟩
  · refine h2.run pins s σ H Q I ⟨a, u, hH, ?_, fun od => ?_⟩
    · cases u <;> first | exact hu.elim | trivial
    refine lc_readP ⟨shareE none ρ, φ, bb, d, ?_, eF, ⟨a, od, u, g1, upd_same⟩, fun w H' g G => ?_⟩
    · exact (R.share none).swp (Swp.lock hH hu) fun z => share_all R z
    · obtain ⟨e2, G2⟩ := G.unlock hu hH
      exact ⟨e2, q w _ g G2⟩
  · refine h1.run pins s σ H Q I (lc_readP ⟨shareE none ρ, φ, bb, d, R.share none, eF, ⟨a, od, u, g1, hH⟩, q⟩)
/-! ### a[i] += e -/
theorem get_lst : PGet X (rIxL X.K) := by
  intro pins s σ H o j ov jv Q I ro rj h
  obtain ⟨p, xs, j, z, rfl, rfl, hq, he, q⟩ := h
  cases ro
  obtain ⟨t, rfl⟩ := rj
  obtain ⟨its, r, pl, hz⟩ := I.list hq
  obtain ⟨m, h1, h2, h3, h4, h5⟩ := atI_get he
  obtain ⟨w, ew, rw'⟩ := r.get h2
  have hl := r.length
  have hn := line63
  have fin : EP X pins σ Q w s := ⟨z, H, I, rw', q⟩
  by_cases h0 : 0 ≤ j
  · have hj : j.toNat = m := by
      rw [seqIndex_of h0 h5] at h1
      exact Option.some.inj h1
    exact wpAny_getItem_list pl.isList h0 (by omega) (by rw [hj]; simpa using ew) fin
  · have hj : (j + (its.toArray.size : Int)).toNat = m := by
      rw [seqIndex_neg (by omega) h4] at h1
      rw [List.size_toArray, ← hl]
      exact Option.some.inj h1
    exact wpAny_getItem_list_neg pl.isList (by omega) (by rw [List.size_toArray] <;> omega) (by omega) (by rw [hj]; simpa using ew) fin
theorem S_aug1 {op : Operator} {o : Bo} {k e : Expr} {ek ea : E} {fI : Int → Int → Int} (hx : PE X (.Name x px) (tVar i)) (hk : QE X k (ev cal ek false)) (he : QE X e (ev cal ea false)) (hip : PIp X op (ipI fI))
    (ho : ∀ (a b : Int) (m : Nat) (xs : List D) (ρ : Ev), (match o with
      | .add => some ((Fl.next, ρ.set i (some (true, PyData.list (xs.set m (.int (a + b)))))) : Fl × Ev)
      | .sub => some (.next, ρ.set i (some (true, .list (xs.set m (.int (a - b))))))
      | _ => none) = some (.next, ρ.set i (some (true, .list (xs.set m (.int (fI a b)))))))
    (ha : ∀ ov iv new, augStore k ov iv new = (do holding [new, ov, iv] (setItem ov iv new); release [new, ov, iv] []; pure .next)) {tpos : Pos} :
    QS X (.AugAssign (.Subscript (.Name x px) k tpos) op e pos) (exS cal fu (.aug1 i ek o ea)) := by
  refine ps_imp (ps_augS hx hk get_lst he hip set_list ha) fun E σ H ⟨ρ, φ, fl, ρ', R, ok, e0, q⟩ => ?_
  simp only [exS] at e0
  split at e0
  · rename_i xs hown
    split at e0
    · rename_i kb j ek0
      split at e0
      · rename_i a hat
        split at e0
        · rename_i eb b ee0
          split at e0
          · rename_i m hm
            have e0 := (ho a b m xs ρ).symm.trans e0
            simp only [Option.some.injEq, Prod.mk.injEq] at e0
            obtain ⟨rfl, rfl⟩ := e0
            obtain ⟨l, us, fs, h1, h2, h3, h4, h5, h6⟩ := own_list R ok hown
            have hlen := h4.length
            have hxm : xs[m]? = some (.int a) := by
              unfold L2.atI at hat
              rw [hm] at hat
              exact hat
            obtain ⟨w, g0, w1, w2, _⟩ := h4.get hxm
            have hw : w = .int a := w2.i.1
            subst hw
            refine ⟨_, h1, ρ, φ, kb, _, R, ek0, fun v H1 gk Gk => ⟨l, us, j, .int a, rfl, Gk.rep.i.1, .inl (.inl (Gk.same l _ h3)), ?_, ?_⟩⟩
            · unfold L2.atI
              rw [hlen, hm]
              exact w1
            · refine ⟨ρ, φ, eb, _, R.same Gk.same, ee0, fun v2 H2 g2 G2 => ⟨a, b, rfl, G2.rep.i.1, l, us, j, m, rfl, Gk.rep.i.1, G2.same l _ (Gk.same l _ h3), by rw [hlen]; exact hm, ?_⟩⟩
              have s2 := Gk.same.trans G2.same
              obtain ⟨gs, q1, q2, q3⟩ := (h4.same s2).set (j := m) (Rep.int (K := X.K) (H := H2) (b := true) (fI a b))
              exact q _ σ _ (aft_lst R ok h1 h2 h3 h4 h5 h6 s2 q1 (q3 (List.nodup_cons.mp h5).2 List.nodup_nil fun a m => nomatch m) fun a m => (q2 a m).imp id fun z => nomatch z)
          · cases e0
        · cases e0
      · cases e0
    · cases e0
  · cases e0
end
end Den

set_option Elab.async false
set_option linter.all false
set_option maxRecDepth 100000
/-! DenFf: pops of a dict, the least key of a dict. -/
namespace Den
open PySem PySem.Spec PyProof.Rows L2 RZ
section
variable {κ : Type} [DecidableEq κ] {enc : κ → D}
theorem drop_enc {K : PySem.W.Frag} {H : Hp} {b : Bool} (he : ∀ k k', PyData.eqv (enc k) (enc k') = decide (k = k')) (k : κ) : ∀ {kvs : List (κ × V)} {ds : List (D × D)} {fs : List Addr}, kvs.map (fun p => enc p.1) = ds.map (·.1) → Reps K H b (kvs.map (·.2)) (ds.map (·.2)) fs →
    ∃ fs', (dropK kvs k).map (fun p => enc p.1) = (dDrop ds (enc k)).map (·.1) ∧ Reps K H b ((dropK kvs k).map (·.2)) ((dDrop ds (enc k)).map (·.2)) fs' ∧ fs'.Sublist fs
  | [], ds, fs, e, r => by
    cases ds with
    | nil => exact ⟨fs, rfl, r, List.Sublist.refl _⟩
    | cons d r => simp at e
  | p :: kvs, [], fs, e, r => by simp at e
  | p :: kvs, q :: ds, fs, e, r => by
    rw [List.map_cons, List.map_cons] at e
    obtain ⟨e1, e2⟩ := List.cons.inj e
    rw [List.map_cons, List.map_cons] at r
    obtain ⟨q1, q2⟩ := q
    have e1 : enc p.1 = q1 := e1
    subst e1
    cases r with
    | @cons _ _ _ _ f fs2 r1 rs =>
      obtain ⟨fs', h1, h2, h3⟩ := drop_enc he k e2 rs
      by_cases z : p.1 = k
      · have d1 : dropK (p :: kvs) k = dropK kvs k := by unfold dropK; rw [List.filter_cons]; simp [z]
        have d2 : dDrop ((enc p.1, q2) :: ds) (enc k) = dDrop ds (enc k) := by
          unfold dDrop
          rw [List.filter_cons]
          simp only [he, z, decide_true, Bool.not_true, Bool.false_eq_true, if_false]
        rw [d1, d2]
        exact ⟨fs', h1, h2, h3.trans (List.sublist_append_right _ _)⟩
      · have d1 : dropK (p :: kvs) k = p :: dropK kvs k := by unfold dropK; rw [List.filter_cons]; simp [z]
        have d2 : dDrop ((enc p.1, q2) :: ds) (enc k) = (enc p.1, q2) :: dDrop ds (enc k) := by
          unfold dDrop
          rw [List.filter_cons]
          simp only [he, z, decide_false, Bool.not_false, if_true]
        rw [d1, d2]
        exact ⟨f ++ fs', by rw [List.map_cons, List.map_cons, h1], .cons r1 h2, List.Sublist.append (List.Sublist.refl _) h3⟩
end
section
variable {X : Cx} {cal : Nat → List (Bool × D) → Option (Bool × D)} {fu : Nat} {i : Nat} {x : Str} {px pos apos cpos : Pos}
theorem S_popD {tg k : Expr} {t : T} {ek : E} (hx : PE X (.Name x px) (tVar i)) (hk : QE X k (ev cal ek false)) (hg : QG X tg (namesT t) t) (hs : noStar k = true) (hl : (apos.endLine == cpos.line) = true)
    (hsw : swapsWithSole [tg] (.Call (.Attribute (.Name x px) "pop" apos) [k] [] cpos) pos.line X.env = pure false) (hw : swappedStores [tg] (.Call (.Attribute (.Name x px) "pop" apos) [k] [] cpos) X.env = pure none) (h1 : (assignEach [tg] X.env).map (·.2) = [assign tg X.env]) :
    QS X (.Assign [tg] (.Call (.Attribute (.Name x px) "pop" apos) [k] [] cpos) pos) (exS cal fu (.popD t i ek)) := by
  have m : M1 X (.Name x px) "pop" apos k cpos := ⟨base_of rfl, few_of hs, hl, by rw [star_of hs]; rfl⟩
  refine ps_imp (ps_asg (pe_dpop1 hx hk m) hg hsw hw h1) fun E σ H ⟨ρ, φ, fl, ρ', R, ok, e0, q⟩ => ?_
  simp only [exS] at e0
  split at e0
  · rename_i kvs hown
    split at e0
    · rename_i hc
      split at e0
      · rename_i kb kd ek0
        split at e0
        · rename_i hkey
          split at e0
          · rename_i d hd
            split at e0
            · rename_i hfz
              obtain ⟨ρ2, est, e3⟩ := Option.map_eq_some_iff.mp e0
              simp only [Prod.mk.injEq] at e3
              obtain ⟨rfl, rfl⟩ := e3
              have hi := ownD_get hown
              obtain ⟨v, f, g1, g2, g3⟩ := R.at_ _ _ _ hi
              have hnd := (ok i _ _ hi g2).1
              rcases g3.dn hc.1 with ⟨a, us, fs, rfl, _, hat, hen, hr, rfl⟩ | ⟨a, us, es, fs, _, hds, _⟩
              · have hat : H a = some (.dK us) := hat
                refine ⟨_, g1, a, rfl, .inl ⟨us, .inl hat⟩, ρ, φ, kb, _, R, ek0, fun y H2 gk Gk => ?_⟩
                obtain ⟨kk, rfl, rfl⟩ := Gk.rep.key hkey
                have s2 := Gk.same
                have ha2 : H2 a = some (.dK us) := s2 a _ hat
                have hr2 := hr.same s2
                rcases valV_dGet eqv_kD kk hen hr2 with ⟨_, z⟩ | ⟨w, d', g', w1, w2, w3, w4⟩
                · rw [z] at hd; cases hd
                · rw [hd] at w2; cases w2
                  obtain ⟨fs', p1, p2, p3⟩ := drop_enc eqv_kD kk hen hr2
                  refine ⟨us, kk, w, ha2, rfl, w1, ?_⟩
                  have an : a ∉ fs := (List.nodup_cons.mp hnd).1
                  have rnew : Rep X.K (upd H2 a (.dK (dropK us kk))) true (.ref a) (.dict (dDrop kvs (kD kk))) (a :: fs') := by
                    refine .dic (b := true) upd_same p1 (p2.keep (fun c zs ec => ?_) (fun c o zs ec => ?_) fun c m o ec => ?_)
                    · rw [upd_ne (fun z => by rw [z, ha2] at ec; cases ec)]; exact ec
                    · rw [upd_ne (fun z => by rw [z, ha2] at ec; cases ec)]; exact ec
                    · rw [upd_ne (fun z => an (p3.subset (by rw [← z]; exact m)))]; exact .of ec
                  have A := aft_mut (H1 := upd H2 a (.dK (dropK us kk))) R ok hi g2 g1 g3 (fun c o ec nc => by
                    rw [upd_ne (fun z => nc (by rw [z]; exact List.mem_cons_self))]; exact s2 c o ec) (fun c hb => by
                    by_cases hba : c = a
                    · subst hba; rw [upd_same]; exact fun z => nomatch z
                    · rw [upd_ne hba]; exact fun z => hb (s2.free z)) rnew (List.nodup_cons.mpr ⟨fun m => an (p3.subset m), p3.nodup (List.nodup_cons.mp hnd).2⟩) (fun c m => .inl (by
                    rcases List.mem_cons.mp m with z | z
                    · rw [z]; exact List.mem_cons_self
                    · exact List.mem_cons_of_mem _ (p3.subset z)))
                  have rd : Rep X.K (upd H2 a (.dK (dropK us kk))) true w d [] := ((w3.fz hfz).2 true).keep (fun c zs ec => by rw [upd_ne (fun z => by rw [z, ha2] at ec; cases ec)]; exact ec) (fun c o zs ec => by rw [upd_ne (fun z => by rw [z, ha2] at ec; cases ec)]; exact ec) fun c m => nomatch m
                  refine ⟨_, _, true, d, [], ρ2, A.env, rd, est, fun σ' φ' S => q _ σ' φ' (A.trans (aft_got A.env A.okk (Got.froz (b := true) hfz (Same.refl _) rd) S))⟩
              · rw [hds] at hc
                exact absurd hc.2 (by simp [tk])
            · cases e0
          · cases e0
        · cases e0
      · cases e0
    · cases e0
  · cases e0
end
end Den

set_option Elab.async false
set_option linter.all false
set_option maxRecDepth 100000
/-! DenFg: the least key of a dict. -/
namespace Den
open PySem PySem.Spec PyProof.Rows L2 RZ
theorem keys_int {κ : List Key} {ds : List D} {ns : List Int} (e : κ.map kD = ds) (h : intsD ds = some ns) : κ = ns.map Sum.inl := by
  induction κ generalizing ds ns with
  | nil =>
    subst e
    cases h
    rfl
  | cons k r ih =>
    subst e
    cases k with
    | inr z => cases h
    | inl j =>
      obtain ⟨m, h1, rfl⟩ := Option.map_eq_some_iff.mp (show (intsD (r.map kD)).map (j :: ·) = some ns from h)
      rw [ih rfl h1]; rfl
section
variable {X : Cx} {cal : Nat → List (Bool × D) → Option (Bool × D)} {i : Nat} {x : Str} {px p pos : Pos}
theorem Q_mind (hc : X.calm = true) (hg : Gl X "min") (hm : X.mg "min" = none) (hx : PE X (.Name x px) (tVar i)) : QE X (.Call (.Name "min" p) [.Name x px] [] pos) (ev cal (.mind i) false) := by
  refine pe_imp (pe_callB (cr_minK hc) hg hm (by first | rfl | decide +kernel) (pa_cons hx pa_nil (star_of rfl)) (by first | decide +kernel | decide) (by first | decide +kernel | decide) (star_of rfl)) fun σ H Q ⟨ρ, φ, bb, d, R, e, q⟩ => ?_
  simp only [ev, fin, Bool.false_eq_true, if_false] at e
  split at e
  · rename_i kvs hp
    split at e
    · rename_i hcond
      obtain ⟨ns, hns, e2⟩ := Option.map_eq_some_iff.mp e
      cases e2
      have hi : ρ[i]? = some (some (true, .dict kvs)) := by
        unfold getD? at hp
        split at hp
        · rename_i q2 hq
          cases hp
          exact hq
        · cases hp
      obtain ⟨v, f, h1, h2, h3⟩ := R.at_ _ _ _ hi
      rcases h3.dn hcond.1.1 with ⟨a, us, fs, rfl, _, hat, hk, _, _⟩ | ⟨a, us, es, fs, _, hds, _⟩
      · have hat : H a = some (.dK us) := hat
        have hkeys : us.map (·.1) = ns.map Sum.inl := keys_int (by rw [List.map_map]; exact hk) hns
        refine ⟨_, h1, a, us, ns, rfl, hat, hkeys, fun z => ?_, fun m hm hle => ?_⟩
        · rw [z, List.map_nil, List.map_eq_nil_iff] at hkeys
          rw [hkeys, List.map_nil] at hk
          exact hcond.2 (List.map_eq_nil_iff.mp hk.symm)
        · rw [← minI_eq hm hle]
          exact q _ H [] (Got.scalar (Same.refl _) (.int _))
      · rw [hds] at hcond
        exact absurd hcond.1.2 (by simp [tk])
    · cases e
  · cases e
end
end Den

set_option Elab.async false
set_option linter.all false
set_option maxRecDepth 100000
/-! DenN: the reading of expressions off their text. -/
namespace Den
open PySem PySem.Spec PyProof.Rows L2 RZ

/-- what is known of a def's names -/
structure CC where
  N : List Str
  sc : Scope
  raw : List (Str × NameKind)
  isDef : Bool
  fns : List (Str × (Nat × Nat))
  bl : List Str
  gs : List (Str × D)
  td : List Nat
  gen : Bool
  im : List (Str × Value)
  kd : List (Str × List (Str × Int))
def CC.fnB (cc : CC) (x : Str) : Bool := cc.isDef || decide (cc.raw.lookup x = some .cell)
def CC.blk (cc : CC) (scope : Scope) : CC := { cc with sc := relS scope cc.sc, raw := scope.names, isDef := false }
/-- a generator expression's own frame -/
def CC.gblk (cc : CC) (scope : Scope) : CC := { cc with sc := scope, raw := [], isDef := false, gen := false }
structure Mat (X : Cx) (cc : CC) (cal : Nat → List (Bool × D) → Option (Bool × D)) (k : Nat) : Prop where
  calm : X.calm = true
  hN : X.N = cc.N
  nd : X.N.Nodup
  sc : X.env.scope = cc.sc
  fn : ∀ x, cc.fnB x = true → X.fn x = true
  room : Room k X.A
  never : PassesOwn (model X.prog X.w) X.A X.env X.xe
  bl : ∀ x ∈ cc.bl, X.mg x = none
  fns : ∀ x f n, cc.fns.lookup x = some (f, n) → ∃ fa fd ps, X.mg x = some (.ref fa) ∧ PySem.W.keepIn X.K (.ref fa) = true ∧ Binds X.K fd ps [] ∧ FnOk X.prog X.w X.K X.mg X.base CX0 k fa fd ps (spF X.K (cal f) n) ∧ ∀ ps r, cal f ps = some r → ps.length = n
  gs : ∀ x d, cc.gs.lookup x = some d → ∃ v u, X.mg x = some u ∧ RelV v u ∧ ∀ b H, Rep X.K H b v d []
  im : ∀ x v, cc.im.lookup x = some v → X.mg x = some v
  kd : ∀ x kvs, cc.kd.lookup x = some kvs → ∃ p, X.mg x = some (.ref p) ∧ ∀ z i, kvs.lookup z = some i → KDct X.K X.w p z (.int i)
  code : cc.gen = true → Room (k + 1) X.A ∧ ∃ c P, X.env.code = .ref c ∧ PySem.W.codeHdIn X.K c P = true ∧ X.K.lookup P = none ∧ GxR.TabB X.base X.mg c P
theorem Mat.blk {X : Cx} {cc : CC} {cal : Nat → List (Bool × D) → Option (Bool × D)} {k : Nat} (M : Mat X cc cal k) (s : Shared) (H : Hp) (scope : Scope) (C : Addr) (cl : List (Str × Addr)) (fp : List Addr) : Mat (X.blk s H scope (compEnvC scope cl C X.env) fp) (cc.blk scope) cal k where
  calm := M.calm
  hN := M.hN
  nd := M.nd
  sc := by show relS scope X.env.scope = relS scope cc.sc; rw [M.sc]
  fn := fun x h => by
    have h' : decide (scope.names.lookup x = some NameKind.cell) = true := h
    show (scope.names.lookup x == some NameKind.cell) = true
    rw [of_decide_eq_true h']; rfl
  room := M.room
  never := PassesOwn.never
  bl := M.bl
  fns := M.fns
  gs := M.gs
  im := M.im
  kd := M.kd
  code := M.code
theorem Mat.gblk {X : Cx} {cc : CC} {cal : Nat → List (Bool × D) → Option (Bool × D)} {k : Nat} (M : Mat X cc cal k) (hg : cc.gen = true) (s : Shared) (H : Hp) (scope : Scope) (C : Addr) (code : Value) (fp : List Addr) (A' : Around) (h : GenY.GArd X A') : Mat (GenY.cgen X A' s H (GenY.genv X scope C code) fp) (cc.gblk scope) cal k where
  calm := M.calm
  hN := M.hN
  nd := M.nd
  sc := rfl
  fn := fun x h => by simp [CC.fnB, CC.gblk] at h
  room := by
    obtain ⟨r, _⟩ := M.code hg
    have h1 := r.dp
    have h2 := r.un
    have h3 := h.dp
    have h4 := h.un
    exact ⟨h.hd, by show A'.depth + 3 * k + 5 < _; omega, by show A'.units + 16 * k + 200 < _; omega⟩
  never := PassesOwn.never
  bl := M.bl
  fns := M.fns
  gs := M.gs
  im := M.im
  kd := M.kd
  code := fun h => nomatch h

/-- the place of a name -/
def ixOf (x : Str) : List Str → Nat → Option Nat
  | [], _ => none
  | y :: r, i => if y = x then some i else ixOf x r (i + 1)
theorem ixOf_get {x : Str} : ∀ {N : List Str} {i j : Nat}, ixOf x N i = some j → i ≤ j ∧ N[j - i]? = some x
  | y :: r, i, j, h => by
    unfold ixOf at h
    split at h
    · rename_i e
      cases h; subst e
      exact ⟨Nat.le_refl _, by rw [Nat.sub_self]; rfl⟩
    · obtain ⟨h1, h2⟩ := ixOf_get h
      refine ⟨by omega, ?_⟩
      rw [show j - i = (j - (i + 1)) + 1 by omega]
      exact h2
def isVis (sc : Scope) (x : Str) : Bool := decide (sc.names.lookup x = some .local) || decide (sc.names.lookup x = some .cell) || decide (sc.names.lookup x = some .free)
def isLoc (cc : CC) (x : Str) : Bool := decide (cc.sc.names.lookup x = some .local) || (decide (cc.sc.names.lookup x = some .cell) && cc.fnB x)
def okName (x : Str) : Bool := !decide (x = "__name__") && !(x == ("__debug__" : Str)) && !(x == ("__classdict__" : Str))
def isGl (cc : CC) (x : Str) : Bool := decide (cc.sc.names.lookup x = some .globalImplicit)
/-- a name that is read -/
def cVar (cc : CC) (x : Str) : Option E :=
  if okName x then
    if isVis cc.sc x then (ixOf x cc.N 0).map .v
    else if isGl cc x then (cc.gs.lookup x).map .k
    else none
  else none
def cCon : Const → Option D
  | .none => some .none
  | .bool b => some (.bool b)
  | .int i => some (.int i)
  | .str z => some (.str z)
  | _ => none
def cBo : Operator → Option Bo
  | .Add => some .add
  | .Sub => some .sub
  | .Mult => some .mul
  | .FloorDiv => some .fdiv
  | .Mod => some .mod
  | .Pow => some .pow
  | _ => none
theorem cBo_eq {o : Operator} {b : Bo} (h : cBo o = some b) : o = bop b := by
  cases o <;> first | (cases h; done) | (cases h; rfl)
def cCo : CmpOp → Option Co
  | .Eq => some .eq
  | .NotEq => some .ne
  | .Lt => some .lt
  | .LtE => some .le
  | .Gt => some .gt
  | .GtE => some .ge
  | .In => some .inn
  | .NotIn => some .nin
  | .Is => some .isN
  | .IsNot => some .notN
def notSlice : Expr → Bool
  | .Slice _ _ _ _ => false
  | .Tuple _ _ _ => false
  | .Starred _ _ => false
  | _ => true
/-- in a read, a tuple may stand there -/
def notSl2 : Expr → Bool
  | .Slice _ _ _ _ => false
  | .Starred _ _ => false
  | _ => true
abbrev Cf := CC → Bool → Expr → Option E
def cList (f : Expr → Option E) : List Expr → Option Es
  | [] => some .nil
  | e :: r => if noStar e then match f e, cList f r with
    | some a, some b => some (.cons a b)
    | _, _ => none else none
def cOpt (f : Expr → Option E) : Option Expr → Option Eo
  | none => some .no
  | some e => (f e).map .so
def cBool (f : Expr → Option E) (op : BoolOp) : List Expr → Option E
  | [] => none
  | [a] => f a
  | a :: b :: r => match f a, cBool f op (b :: r) with
    | some x, some y => match op with
      | .And => some (.an x y)
      | .Or => some (.ro x y)
    | _, _ => none
def cCmp (f : Expr → Option E) (a : Expr) : List CmpOp → List Expr → Option E
  | [op], [b] => if behindInMarks op b then none else match cCo op, f a, f b with
    | some o, some x, some y => some (.cmp o x y)
    | _, _, _ => none
  | [op, op'], [b, c] => if lastMarks [op, op'] [b, c] then none else match cCo op, cCo op' with
    | some o, some o' => match f a, f b, f c with
      | some x, some y, some z => some (.chn o o' x y z)
      | _, _, _ => none
    | _, _ => none
  | [op, op', op''], [b, c, d] => if lastMarks [op, op', op''] [b, c, d] then none else match cCo op, cCo op', cCo op'' with
    | some o, some o', some o'' => match f a, f b, f c, f d with
      | some x, some y, some z, some w => some (.ch3 o o' o'' x y z w)
      | _, _, _, _ => none
    | _, _, _ => none
  | _, _ => none
/-- the names of a comprehension's own, in their places -/
def ownOf (cc : CC) (scope : Scope) : List (Str × Nat) := scope.names.filterMap fun y => if y.2 = .local ∨ y.2 = .cell then (ixOf y.1 cc.N 0).map fun i => (y.1, i) else none
mutual
def cTg (cc : CC) : Expr → Option T
  | .Name x _ => if isLoc cc x then (ixOf x cc.N 0).map .n else none
  | .Tuple es _ _ => (cTgs cc es).map .t
  | _ => none
def cTgs (cc : CC) : List Expr → Option Ts
  | [] => some .nil
  | e :: r => match cTg cc e, cTgs cc r with
    | some a, some b => some (.cons a b)
    | _, _ => none
end
def isTup : Expr → Bool
  | .Tuple _ _ _ => true
  | _ => false
def blt (cc : CC) (x : Str) : Bool := decide (x ∈ cc.bl) && isGl cc x && okName x
def rngIn (cc : CC) : Expr → Option (List Expr)
  | .Call (.Name x _) es [] _ => if x = "range" ∧ blt cc x ∧ es.all noStar then some es else none
  | _ => none
/-- a walk over permutations(range(..)), combinations(..) -/
def cIx (cc : CC) (x : Str) : Option String := match cc.im.lookup x with
  | some (.type t) => if isGl cc x ∧ okName x then some t else none
  | _ => none
def cPm (f : Expr → Option E) (cc : CC) (x : Str) (a : Expr) : Option I :=
  if cIx cc x = some "itertools.permutations" then match rngIn cc a with
    | some [b] => (f b).map .pmR
    | _ => none
  else none
def cCb (f : Expr → Option E) (cc : CC) (x : Str) (a b : Expr) : Option I :=
  if cIx cc x = some "itertools.combinations" ∧ noStar b then match rngIn cc a with
    | some [c] => match f c, f b with
      | some p, some q => some (.cbR p q)
      | _, _ => none
    | some _ => none
    | none => if noStar a then match f a, f b with
      | some p, some q => some (.cbV p q)
      | _, _ => none
      else none
  else none
def cIt (f : Expr → Option E) (cc : CC) (tg : Expr) (e : Expr) : Option I :=
  match e with
  | .Call (.Name x _) [a] [] _ =>
    if x = "range" ∧ blt cc x ∧ noStar a then (f a).map .rng1
    else if x = "enumerate" ∧ blt cc x ∧ noStar a ∧ isTup tg then (f a).map .enm
    else match cPm f cc x a with
      | some z => some z
      | none => (f e).map .e
  | .Call (.Name x _) [a, b, c] [] _ =>
    if x = "range" ∧ blt cc x ∧ noStar a ∧ noStar b ∧ noStar c then match f a, f b, f c with
      | some p, some q, some r => some (.rng3 p q r)
      | _, _, _ => none
    else (f e).map .e
  | .Call (.Name x _) [a, b] [] _ =>
    if x = "range" ∧ blt cc x ∧ noStar a ∧ noStar b then match f a, f b with
      | some p, some q => some (.rng2 p q)
      | _, _ => none
    else if x = "zip" ∧ blt cc x ∧ noStar a ∧ noStar b ∧ isTup tg then match f a, f b with
      | some p, some q => some (.zip p q)
      | _, _ => none
    else match cCb f cc x a b with
      | some z => some z
      | none => (f e).map .e
  | e => (f e).map .e
/-- the built-ins by name and number of arguments -/
def biT : List (Str × Nat × String × Bool × Bi) := [
  ("len", 1, "len", false, .len), ("abs", 1, "abs", false, .abs), ("int", 1, "int", true, .int), ("sum", 1, "sum", false, .sum),
  ("max", 1, "max", false, .max1), ("min", 1, "min", false, .min1), ("list", 1, "list", true, .list), ("tuple", 1, "tuple", true, .tuple),
  ("any", 1, "any", false, .any), ("all", 1, "all", false, .all), ("sorted", 1, "sorted", false, .sorted), ("str", 1, "str", true, .strI), ("max", 2, "max", false, .max2), ("min", 2, "min", false, .min2)]
def biN (x : Str) (n : Nat) : Option (String × Bool × Bi) := (biT.find? fun r => decide (r.1 = x) && decide (r.2.1 = n)).map fun r => r.2.2
def isaN (x : Str) : Option (String × Bi) :=
  if x = "int" then some ("int", .isInt)
  else if x = "bool" then some ("bool", .isBool)
  else if x = "str" then some ("str", .isStr)
  else if x = "tuple" then some ("tuple", .isTuple)
  else none
def setIn (cc : CC) : List Expr → Option Expr
  | [.Call (.Name x _) [a] [] _] => if x = "set" ∧ blt cc x ∧ noStar a then some a else none
  | _ => none
/-- functions of other modules, by the names that are imported -/
def imN (v : Value) : Option (String × Bi) := match v with
  | .builtin id => if id = "math.gcd" then some (id, .gcd) else none
  | _ => none
def cIm (f : Expr → Option E) (cc : CC) (x : Str) (es : List Expr) : Option E :=
  match (cc.im.lookup x).bind imN with
  | some (_, g) => if isGl cc x ∧ okName x ∧ es ≠ [] then (cList f es).map (.bi g) else none
  | none => none
def cCall (f : Expr → Option E) (cc : CC) (x : Str) (es : List Expr) : Option E :=
  match cIm f cc x es with
  | some z => some z
  | none => match cc.fns.lookup x with
  | some (g, n) => if isGl cc x ∧ okName x ∧ es.length = n then (cList f es).map (.cal g) else none
  | none => if blt cc x then
      match (if x = "list" then some Bi.listRng1 else if x = "tuple" then some Bi.tupRng1 else none), es with
      | some b, [e] => match rngIn cc e with
        | some [a] => (f a).map fun y => .bi b (.cons y .nil)
        | some [a, c] => match f a, f c with
          | some y, some z => some (.bi (match b with | .listRng1 => .listRng2 | _ => .tupRng2) (.cons y (.cons z .nil)))
          | _, _ => none
        | some _ => none
        | none => match biN x 1 with
          | some (_, _, g) => (cList f es).map (.bi g)
          | none => none
      | _, es => if x = "isinstance" then match es with
          | [a, .Name y _] => if blt cc y ∧ noStar a then match isaN y, f a with
            | some (_, g), some z => some (.bi g (.cons z .nil))
            | _, _ => none else none
          | _ => none
        else match (if x = "len" then setIn cc es else none) with
          | some a => (f a).map fun y => .bi .lenSet (.cons y .nil)
          | none => match (if x = "sorted" then setIn cc es else none) with
          | some a => (f a).map fun y => .bi .sortedSet (.cons y .nil)
          | none => match biN x es.length with
            | some (_, _, g) => (cList f es).map (.bi g)
            | none => none
    else none
def revOf : Expr → Bool
  | .Slice none none (some (.UnaryOp .USub (.Constant (.int 1) _ _) _)) _ => true
  | _ => false
def cSub (f : Expr → Option E) (a : Expr) (b : Expr) : Option E :=
  match b with
  | .Slice lo hi none _ => match f a, cOpt f lo, cOpt f hi with
    | some x, some l, some h => some (.sl x l h)
    | _, _, _ => none
  | .Slice none none (some (.UnaryOp .USub (.Constant (.int i) _ _) _)) _ => if i = 1 then (f a).map .rev else none
  | b => if notSl2 b then match f a, f b with
    | some x, some y => some (.ix x y)
    | _, _ => none else none
def cIfs (f : Expr → Option E) : List Expr → Option Eo
  | [] => some .no
  | [c] => (f c).map .so
  | _ => none
def cLc (f : Cf) (cc : CC) (elt : Expr) (gens : List Comprehension) (scope : Scope) : Option E :=
  if blkC cc.N cc.sc scope (ownOf cc scope) then
    match gens with
    | [⟨tg, iter, ifs, 0⟩] => if noSet iter then match cIt (f cc false) cc tg iter, cTg (cc.blk scope) tg, cIfs (f (cc.blk scope) true) ifs, f (cc.blk scope) false elt with
      | some s, some t, some i, some e => if (namesT t).all (fun j => decide (j ∈ (ownOf cc scope).map (·.2))) then some (.lc e t s i ((ownOf cc scope).map (·.2))) else none
      | _, _, _, _ => none else none
    | [⟨tg, iter, [], 0⟩, ⟨tg1, iter1, [], 0⟩] => if noSet iter && noSet iter1 then match cIt (f cc false) cc tg iter, cTg (cc.blk scope) tg, cIt (f (cc.blk scope) false) (cc.blk scope) tg1 iter1, cTg (cc.blk scope) tg1, f (cc.blk scope) false elt with
      | some s, some t, some s1, some t1, some e => if (namesT t).all (fun j => decide (j ∈ (ownOf cc scope).map (·.2))) && (namesT t1).all (fun j => decide (j ∈ (ownOf cc scope).map (·.2))) then some (.lc2 e t s t1 s1 ((ownOf cc scope).map (·.2)) (namesT t1)) else none
      | _, _, _, _, _ => none else none
    | _ => none
  else none
/-- a comprehension over a dict, told by its line -/
def cLcd (f : Cf) (cc : CC) (elt : Expr) (gens : List Comprehension) (scope : Scope) : Option E :=
  if blkC cc.N cc.sc scope (ownOf cc scope) then
    match gens with
    | [⟨tg, .Name x px, ifs, 0⟩] => if decide ((px.line + 3000000) ∈ cc.td) = true then match cVar cc x, cTg (cc.blk scope) tg, cIfs (f (cc.blk scope) true) ifs, f (cc.blk scope) false elt with
      | some (.v j), some t, some i, some e => if (namesT t).all (fun j => decide (j ∈ (ownOf cc scope).map (·.2))) then some (.lcd e t j i ((ownOf cc scope).map (·.2))) else none
      | _, _, _, _ => none else none
    | _ => none
  else none
def cDc (f : Cf) (cc : CC) (key val : Expr) (gens : List Comprehension) (scope : Scope) : Option E :=
  if blkC cc.N cc.sc scope (ownOf cc scope) then
    match gens with
    | [⟨tg, iter, ifs, 0⟩] => if noSet iter then match cIt (f cc false) cc tg iter, cTg (cc.blk scope) tg, cIfs (f (cc.blk scope) true) ifs, f (cc.blk scope) false key, f (cc.blk scope) false val with
      | some s, some t, some i, some k, some e => if (namesT t).all (fun j => decide (j ∈ (ownOf cc scope).map (·.2))) then some (.dc false k e t s i ((ownOf cc scope).map (·.2))) else none
      | _, _, _, _, _ => none else none
    | _ => none
  else none
def notList : Expr → Bool
  | .List _ _ => false
  | _ => true
def genScC (scope : Scope) : Bool := (scope.names.all fun y => !decide (y.2 = .cell)) && !scope.isCoroutine && decide (scope.names.lookup (".0" : Str) = some NameKind.local)
def gaN (x : Str) : Option Bool := if x = "all" then some true else if x = "any" then some false else none
/-- all(..), any(..) of a generator expression -/
def cGa (f : Cf) (cc : CC) (x : Str) (elt : Expr) (gens : List Comprehension) (scope : Scope) : Option E :=
  if cc.gen && blt cc x && blkC cc.N cc.sc scope (ownOf cc scope) && genScC scope then
    match gaN x, gens with
    | some al, [⟨tg, iter, ifs, 0⟩] => if noSet iter && notList iter then match cIt (f cc false) cc tg iter, cTg (cc.gblk scope) tg, cIfs (f (cc.gblk scope) true) ifs, f (cc.gblk scope) false elt with
      | some s, some t, some i, some e => if (namesT t).all (fun j => decide (j ∈ (ownOf cc scope).map (·.2))) then some (.ga al e t s i ((ownOf cc scope).map (·.2))) else none
      | _, _, _, _ => none else none
    | _, _ => none
  else none
def mtT : List (Str × Bi) := [("join", .join), ("count", .count), ("index", .sidx)]
def mtN (m : Str) : Option Bi := (mtT.find? fun r => decide (r.1 = m)).map fun r => r.2
/-- a method of a text, one argument -/
def cMt (f : Expr → Option E) (o : Expr) (m : Str) (apos : Pos) (e : Expr) (cpos : Pos) : Option E :=
  if noStar e && baseO o && (apos.endLine == cpos.line) then match mtN m, f o, f e with
    | some b, some x, some y => some (.bi b (.cons x (.cons y .nil)))
    | _, _, _ => none
  else none
/-- forms of their own: a dict with written text keys, a written tuple's index, an item of a module's dict -/
def cEx (f : Cf) (cc : CC) (e : Expr) : Option E :=
  match e with
  | .Dict [some (.Tuple es tk tp)] [v] _ => match f cc false (.Tuple es tk tp), f cc false v with
    | some a, some b => some (.dt1 a b)
    | _, _ => none
  | .Dict keys vals _ => match keysC keys, cList (f cc false) vals with
    | some ks, some zs => if (keys.length = vals.length ∧ ks ≠ []) ∧ ks.length ≤ 15 then some (.dsk ks zs) else none
    | _, _ => none
  | .Call (.Attribute (.Tuple es _ _) m apos) [a] [] cpos => match strsC es, f cc false a with
    | some ks, some z => if (m = "index" ∧ noStar a = true) ∧ (apos.endLine == cpos.line) = true then some (.tix ks z) else none
    | _, _ => none
  | .Call (.Attribute o m apos) [a] [] cpos => if (m = "index" ∧ decide ((cpos.line + 6000000) ∈ cc.td) = true) ∧ (noStar a = true ∧ baseO o = true) ∧ (apos.endLine == cpos.line) = true then match f cc false o, f cc false a with
    | some x, some y => some (.tidx x y)
    | _, _ => none else none
  | .Call (.Name x _) [a] [] pos => if (x = "tuple" ∧ blt cc x = true) ∧ decide ((pos.line + 7000000) ∈ cc.td) = true ∧ noStar a = true then (f cc false a).map .tupX else match a with
    | .Name y _ => if (x = "min" ∧ blt cc x = true) ∧ decide ((pos.line + 5000000) ∈ cc.td) = true then match cVar cc y with
      | some (.v j) => some (.mind j)
      | _ => none else none
    | _ => none
  | .Subscript (.Name x _) b _ => match cc.kd.lookup x, f cc false b with
    | some kvs, some z => if (isGl cc x = true ∧ okName x = true) ∧ notSlice b = true then some (.kdx kvs z) else none
    | _, _ => none
  | _ => none
/-- values, but for not, and, or, comparisons, if -/
def cP (f : Cf) (cc : CC) (e : Expr) : Option E :=
  match cEx f cc e with
  | some z => some z
  | none => match e with
  | .Name x _ => cVar cc x
  | .Constant c _ _ => (cCon c).map .k
  | .BinOp a op b _ => match cBo op, f cc false a, f cc false b with
    | some o, some x, some y => some (.bin o x y)
    | _, _, _ => none
  | .UnaryOp .USub a _ => (f cc false a).map .neg
  | .Tuple es _ _ => (cList (f cc false) es).map .tup
  | .List es _ => (cList (f cc false) es).map .lst
  | .Dict [] [] pos => some (.dsp (decide (pos.line ∈ cc.td)) .nil .nil)
  | .Call (.Name x _) [.GeneratorExp elt gens scope _] [] _ => cGa f cc x elt gens scope
  | .Call (.Name x _) es [] _ => cCall (f cc false) cc x es
  | .Call (.Attribute o m apos) [e] [] cpos => cMt (f cc false) o m apos e cpos
  | .Subscript a b _ => cSub (f cc false) a b
  | .ListComp elt gens scope _ => match cLcd f cc elt gens scope with
    | some z => some z
    | none => cLc f cc elt gens scope
  | .DictComp key val gens scope _ => cDc f cc key val gens scope
  | _ => none
def cX1 (f : Cf) : Cf := fun cc m e =>
  match e with
  | .UnaryOp .Not a _ => (f cc m a).map .nt
  | .BoolOp op vs _ => match vs with
    | a :: b :: r => cBool (f cc m) op (a :: b :: r)
    | _ => none
  | .Compare a ops bs _ => cCmp (f cc false) a ops bs
  | .IfExp c a b _ => if m then none else match f cc true c, f cc false a, f cc false b with
    | some x, some y, some z => some (.ite x y z)
    | _, _, _ => none
  | .Name x px => if m = true ∧ decide ((px.line + 2000000) ∈ cc.td) = true then match cVar cc x with
    | some (.v i) => some (.dtr i)
    | _ => none else cP f cc (.Name x px)
  | e => cP f cc e
def cX : Nat → Cf
  | 0 => fun _ _ _ => none
  | n + 1 => cX1 (cX n)
end Den

set_option Elab.async false
set_option linter.all false
set_option maxRecDepth 100000
/-! DenDo: dicts with written text keys, read. -/
namespace Den
open PySem PySem.Spec PyProof.Rows L2 RZ
section
variable {X : Cx} {cal : Nat → List (Bool × D) → Option (Bool × D)}
theorem pps_of {f : Expr → Option E} (hf : ∀ e z, f e = some z → QE X e (ev cal z false)) {pos : Pos} : ∀ {keys : List (Option Expr)} {ks : List Str} {vals : List Expr} {zs : Es}, keysC keys = some ks → cList f vals = some zs → keys.length = vals.length → PPs X pos keys vals (trsOf X cal ks zs) ∧ keys.all (·.isSome) = true ∧ keys.length = ks.length
  | [], ks, [], zs, h, h2, _ => by
    cases h
    cases h2
    exact ⟨pps_nil, rfl, rfl⟩
  | some (.Constant (.str z) j p) :: r, ks, v :: vals, zs, h, h2, hl => by
    obtain ⟨ks', h1, rfl⟩ := Option.map_eq_some_iff.mp (show (keysC r).map (z :: ·) = some ks from h)
    unfold cList at h2
    split at h2
    · split at h2
      · rename_i a b ha hb
        cases h2
        obtain ⟨q1, q2, q3⟩ := pps_of hf (pos := pos) h1 hb (by simpa using hl)
        exact ⟨pps_cons pe_str (hf _ _ ha) q1, by rw [List.all_cons, q2]; rfl, by rw [List.length_cons, List.length_cons, q3]⟩
      · cases h2
    · cases h2
theorem Q_dsk {f : Expr → Option E} (hf : ∀ e z, f e = some z → QE X e (ev cal z false)) {pos : Pos} {keys : List (Option Expr)} {ks : List Str} {vals : List Expr} {zs : Es} (h : keysC keys = some ks) (h2 : cList f vals = some zs) (hl : keys.length = vals.length) (hne : ks ≠ []) (h15 : ks.length ≤ 15) : QE X (.Dict keys vals pos) (ev cal (.dsk ks zs) false) := by
  obtain ⟨p1, p2, p3⟩ := pps_of hf (pos := pos) h h2 hl
  refine pe_imp (pe_disp p1 p2 hl (fun z => hne (by rw [z] at p3; exact List.eq_nil_of_length_eq_zero p3.symm)) (by omega)) fun σ H Q ⟨ρ, φ, bb, d, R, e, q⟩ => ?_
  simp only [ev, fin, Bool.false_eq_true, if_false] at e
  split at e
  · cases e
  rename_i ps e1
  split at e
  · rename_i hc
    obtain ⟨⟨_, hnd⟩, hlen, hfz⟩ := hc
    simp only [Option.some.injEq, Prod.mk.injEq] at e
    obtain ⟨rfl, rfl⟩ := e
    intro p hp
    refine pairs_read (R.same (same_new hp)) e1 hlen hfz fun vs H2 s r => ?_
    have e2 : H2 p = some (.dK []) := s p _ upd_same
    have hvl : vs.length = ks.length := by rw [r.length, List.length_map, hlen]
    refine ⟨e2, (ks.map Sum.inr).zip vs, ?_, ?_, ?_⟩
    · rw [List.zip_map_left, List.zip_map_left, List.map_map]; rfl
    · rw [List.length_zip, List.length_map]; omega
    · have hkeys : ((ks.map Sum.inr).zip vs).map (·.1) = ks.map (Sum.inr : Str → Key) := by
        rw [← List.unzip_fst, List.unzip_zip_left (by rw [List.length_map]; omega)]
      have hvals : ((ks.map (Sum.inr : Str → Key)).zip vs).map (·.2) = vs := by
        rw [← List.unzip_snd, List.unzip_zip_right (by rw [List.length_map]; omega)]
      have hm : mergeK [] ((ks.map Sum.inr).zip vs) = (ks.map Sum.inr).zip vs := by
        refine merge_nodup ?_
        rw [List.nil_append, hkeys]
        exact (List.pairwise_map.mpr (hnd.imp fun h z => h (Sum.inr.inj z)))
      rw [hm]
      have hd : ((ks.map PyData.str).zip (ps.map (·.2))).map (·.1) = ks.map PyData.str := by
        rw [← List.unzip_fst, List.unzip_zip_left (by rw [List.length_map, List.length_map]; omega)]
      have hd2 : ((ks.map PyData.str).zip (ps.map (·.2))).map (·.2) = ps.map (·.2) := by
        rw [← List.unzip_snd, List.unzip_zip_right (by rw [List.length_map, List.length_map]; omega)]
      have rr : Reps X.K (upd H2 p (.dK ((ks.map Sum.inr).zip vs))) true vs (ps.map (·.2)) [] := ((r.fz hfz).2 true).keep (fun a xs ea => by rw [upd_ne (fun z => by rw [z, e2] at ea; cases ea)]; exact ea) (fun a o xs ea => by rw [upd_ne (fun z => by rw [z, e2] at ea; cases ea)]; exact ea) fun a m => nomatch m
      refine q _ _ [p] ⟨fun a o ea => ?_, .dic (b := true) (kvs := (ks.map Sum.inr).zip vs) (fs := []) upd_same ?_ ?_, fun _ => ⟨by simp, fun a m => by rw [List.mem_singleton.mp m]; exact hp⟩, fun a m => .inl (by rw [List.mem_singleton.mp m]; exact hp)⟩
      · have hne2 : a ≠ p := fun z => by rw [z, hp] at ea; cases ea
        rw [upd_ne hne2]
        have := s a o (by rw [upd_ne hne2]; exact ea)
        exact this
      · rw [hd]
        have : ((ks.map (Sum.inr : Str → Key)).zip vs).map (fun p => kD p.1) = (((ks.map Sum.inr).zip vs).map (·.1)).map kD := by rw [List.map_map]; rfl
        rw [this, hkeys, List.map_map]; rfl
      · rw [hvals, hd2]; exact rr
  · cases e
theorem Q_kdx {x : Str} {px pos : Pos} {b : Expr} {eb : E} {kvs : List (Str × Int)} {p : Addr} (hg : Gl X x) (hm : X.mg x = some (.ref p)) (hn : (x == ("__debug__" : Str)) = false) (hk : ∀ z i, kvs.lookup z = some i → KDct X.K X.w p z (.int i)) (hs : PlainIx b) (hb : QE X b (ev cal eb false)) : QE X (.Subscript (.Name x px) b pos) (ev cal (.kdx kvs eb) false) := by
  refine pe_imp (pe_ix ix_kdict (pe_glob hg hm (v := .ref p) rfl hn) hb hs) fun σ H Q ⟨ρ, φ, bb, d, R, e, q⟩ => ?_
  simp only [ev, fin, Bool.false_eq_true, if_false] at e
  split at e
  · rename_i c z e1
    obtain ⟨i, hi, e2⟩ := Option.map_eq_some_iff.mp e
    cases e2
    exact ⟨ρ, φ, c, .str z, R, e1, fun v H2 g G => ⟨p, z, .int i, rfl, G.rep.s.1, hk z i hi, q _ H2 [] (Got.scalar G.same (.int i))⟩⟩
  · cases e
end
end Den

set_option Elab.async false
set_option linter.all false
set_option maxRecDepth 100000
/-! DenO: what is read off the text is what it does: expressions. -/
namespace Den
open PySem PySem.Spec PyProof.Rows L2 RZ

section
variable {X : Cx} {cc : CC} {cal : Nat → List (Bool × D) → Option (Bool × D)} {k : Nat} {pos p : Pos}
theorem okName_of {x : Str} (h : okName x = true) : x ≠ "__name__" ∧ (x == ("__debug__" : Str)) = false ∧ (x == ("__classdict__" : Str)) = false := by
  unfold okName at h
  simp only [Bool.and_eq_true, Bool.not_eq_true', decide_eq_false_iff_not] at h
  exact ⟨h.1.1, h.1.2, h.2⟩
theorem isGl_of (M : Mat X cc cal k) {x : Str} (h : isGl cc x = true) : Gl X x := by
  have := of_decide_eq_true h
  show X.env.scope.names.lookup x = _
  rw [M.sc]; exact this
theorem isVis_of (M : Mat X cc cal k) {x : Str} (h : isVis cc.sc x = true) : Vis X.env.scope x := by
  unfold isVis at h
  simp only [Bool.or_eq_true, decide_eq_true_eq] at h
  unfold Vis
  rw [M.sc]
  rcases h with (h | h) | h
  · exact .inl h
  · exact .inr (.inl h)
  · exact .inr (.inr h)
theorem ix_of (M : Mat X cc cal k) {x : Str} {i : Nat} (h : ixOf x cc.N 0 = some i) : X.N[i]? = some x := by
  rw [M.hN]
  simpa using (ixOf_get h).2
theorem cVar_var (M : Mat X cc cal k) {x : Str} {i : Nat} (h : cVar cc x = some (.v i)) : PE X (.Name x pos) (tVar i) := by
  unfold cVar at h
  split at h
  · rename_i hn
    obtain ⟨n1, n2, n3⟩ := okName_of hn
    split at h
    · rename_i hv
      obtain ⟨j, hj, e⟩ := Option.map_eq_some_iff.mp h
      cases e
      exact pe_var (ix_of M hj) (isVis_of M hv) n2 n3
    · split at h
      · obtain ⟨j, hj, e⟩ := Option.map_eq_some_iff.mp h
        cases e
      · cases h
  · cases h
theorem cVar_ok (M : Mat X cc cal k) {x : Str} {z : E} (h : cVar cc x = some z) : QE X (.Name x pos) (ev cal z false) := by
  have h0 := h
  unfold cVar at h
  split at h
  · rename_i hn
    obtain ⟨n1, n2, n3⟩ := okName_of hn
    split at h
    · obtain ⟨j, hj, e⟩ := Option.map_eq_some_iff.mp h
      subst e
      exact Q_v j (cVar_var M h0)
    · split at h
      · rename_i hg
        obtain ⟨d, hd, e⟩ := Option.map_eq_some_iff.mp h
        subst e
        obtain ⟨v, u, m1, m2, m3⟩ := M.gs x d hd
        exact Q_k (pe_glob (isGl_of M hg) m1 m2 n2) m3
      · cases h
  · cases h
theorem cCon_ok {c : Const} {j : Nat} {d : D} (h : cCon c = some d) : QE X (.Constant c j pos) (ev cal (.k d) false) := by
  cases c with
  | none => cases h; exact Q_k pe_non fun b H => .non
  | bool b => cases h; exact Q_k pe_bl fun _ H => .bl b
  | int i => cases h; exact Q_k pe_int fun _ H => .int i
  | str z => cases h; exact Q_k pe_str fun _ H => .str z
  | _ => cases h

/-- a reader of expressions is right -/
def Sd (cal : Nat → List (Bool × D) → Option (Bool × D)) (k : Nat) (f : Cf) : Prop := ∀ (X : Cx) (cc : CC), Mat X cc cal k → ∀ (e : Expr) (z : E),
  (f cc false e = some z → QE X e (ev cal z false)) ∧ (f cc true e = some z → QT X e (ev cal z true)) ∧ ∀ i, f cc false e = some (.v i) → PE X e (tVar i)
theorem list_ok {f : Expr → Option E} (hf : ∀ e z, f e = some z → QE X e (ev cal z false)) : ∀ {es : List Expr} {zs : Es}, cList f es = some zs → QA X es (evs cal zs) ∧ es.all noStar = true
  | [], zs, h => by cases h; exact ⟨QA_nil, rfl⟩
  | e :: r, zs, h => by
    unfold cList at h
    split at h
    · rename_i hs
      split at h
      · rename_i a b ha hb
        cases h
        obtain ⟨h1, h2⟩ := list_ok hf hb
        exact ⟨QA_cons (hf _ _ ha) h1 hs, by rw [List.all_cons, hs, h2]; rfl⟩
      · cases h
    · cases h
theorem opt_ok {f : Expr → Option E} (hf : ∀ e z, f e = some z → QE X e (ev cal z false)) {o : Option Expr} {z : Eo} (h : cOpt f o = some z) : QO X o (evo cal z) := by
  cases o with
  | none => cases h; exact QO_no
  | some e =>
    obtain ⟨y, hy, e2⟩ := Option.map_eq_some_iff.mp (show (f e).map Eo.so = some z from h)
    subst e2
    exact QO_so (hf _ _ hy)
theorem bool_ok {f : Expr → Option E} (hf : ∀ e z, f e = some z → QE X e (ev cal z false)) {op : BoolOp} : ∀ {es : List Expr} {z : E}, cBool f op es = some z → QE X (.BoolOp op es pos) (ev cal z false)
  | [], z, h => by cases h
  | [a], z, h => Q_one (hf _ _ h)
  | a :: b :: r, z, h => by
    unfold cBool at h
    split at h
    · rename_i x y hx hy
      have ih := bool_ok hf (op := op) hy
      cases op with
      | And => cases h; exact Q_an (hf _ _ hx) ih
      | Or => cases h; exact Q_ro (hf _ _ hx) ih
    · cases h
theorem boolT_ok {f : Expr → Option E} (hf : ∀ e z, f e = some z → QT X e (ev cal z true)) {op : BoolOp} : ∀ {es : List Expr} {z : E}, cBool f op es = some z → QW X (.BoolOp op es pos) (ev cal z true)
  | [], z, h => by cases h
  | [a], z, h => by
    cases op with
    | And => exact W_one1 (hf _ _ h)
    | Or => exact W_one2 (hf _ _ h)
  | a :: b :: r, z, h => by
    unfold cBool at h
    split at h
    · rename_i x y hx hy
      have ih := boolT_ok hf (op := op) hy
      cases op with
      | And => cases h; exact W_an (hf _ _ hx) ih
      | Or => cases h; exact W_ro (hf _ _ hx) ih
    · cases h
theorem rep_none {K : PySem.W.Frag} {H : Hp} {b : Bool} {v : V} {d : D} {g : List Addr} (r : Rep K H b v d g) : decide (v = .non) = (match d with | .none => true | _ => false) := by
  cases d with
  | none => obtain ⟨rfl, _⟩ := r.no; rfl
  | bool c => obtain ⟨rfl, _⟩ := r.bo; rfl
  | int c => obtain ⟨rfl, _⟩ := r.i; rfl
  | str c => obtain ⟨rfl, _⟩ := r.s; rfl
  | tuple c => obtain ⟨a, us, rfl, _⟩ := r.t; rfl
  | list c => obtain ⟨a, us, fs, rfl, _⟩ := r.l; rfl
  | dict c =>
    rcases r.d with ⟨a, ns, rfl, _⟩ | ⟨a, ks, fs, rfl, _⟩ | ⟨a, ks, es, fs, rfl, _⟩ | ⟨a, o, ns, rfl, _⟩ <;> rfl
theorem co_ok (M : Mat X cc cal k) {op : CmpOp} {o : Co} (h : cCo op = some o) : OpR X (compareOp op) (rBl X.K (cmpD o)) := by
  have hu := M.room.units
  have hu2 : X.A.units + 65 < cLine := by have := M.room.un; omega
  cases op with
  | Eq => cases h; exact (c_eqne hu).1
  | NotEq => cases h; exact (c_eqne hu).2
  | Lt => cases h; exact c_lt hu
  | LtE => cases h; exact c_le hu
  | Gt => cases h; exact c_gt hu
  | GtE => cases h; exact c_ge hu
  | In => cases h; exact (c_in hu2).1
  | NotIn => cases h; exact (c_in hu2).2
  | Is =>
    cases h
    intro pins s σ H x y v u Q I rx ry ⟨p, d1, g1, q, d2, g2, c, r1, r2, e, h⟩
    cases d2 with
    | none =>
      refine op_isN pins s σ H x y v u Q I rx ry ⟨r2.no.1, ?_⟩
      rw [rep_none r1]
      cases d1 <;> (cases e; exact h)
    | _ => cases e
  | IsNot =>
    cases h
    intro pins s σ H x y v u Q I rx ry ⟨p, d1, g1, q, d2, g2, c, r1, r2, e, h⟩
    cases d2 with
    | none =>
      refine op_notN pins s σ H x y v u Q I rx ry ⟨r2.no.1, ?_⟩
      rw [rep_none r1]
      cases d1 <;> (cases e; exact h)
    | _ => cases e
theorem cmp_ok (M : Mat X cc cal k) {f : Expr → Option E} (hf : ∀ e z, f e = some z → QE X e (ev cal z false)) {a : Expr} {ops : List CmpOp} {bs : List Expr} {z : E} (h : cCmp f a ops bs = some z) :
    QE X (.Compare a ops bs pos) (ev cal z false) ∧ QT X (.Compare a ops bs pos) (ev cal z true) := by
  unfold cCmp at h
  split at h
  · split at h
    · cases h
    rename_i hm
    split at h
    · rename_i o x y ho hx hy
      cases h
      exact cmp_q (co_ok M ho) (hf _ _ hx) (hf _ _ hy) (by simpa using hm) fun _ _ => rfl
    · cases h
  · split at h
    · cases h
    rename_i hm
    split at h
    · rename_i o o' ho ho'
      split at h
      · rename_i x y w hx hy hw
        cases h
        exact chn_q (co_ok M ho) (co_ok M ho') (hf _ _ hx) (hf _ _ hy) (hf _ _ hw) (by simpa using hm) (fun _ _ => rfl) fun _ _ => rfl
      · cases h
    · cases h
  · split at h
    · cases h
    rename_i hm
    split at h
    · rename_i o o' o'' ho ho' ho''
      split at h
      · rename_i x y w t hx hy hw ht
        cases h
        exact ch3_q (co_ok M ho) (co_ok M ho') (co_ok M ho'') (hf _ _ hx) (hf _ _ hy) (hf _ _ hw) (hf _ _ ht) (by simpa using hm) (fun _ _ => rfl) (fun _ _ => rfl) fun _ _ => rfl
      · cases h
    · cases h
  · cases h

/-! targets -/
theorem isLoc_of (M : Mat X cc cal k) {x : Str} (h : isLoc cc x = true) : L2.Loc X.env.scope x ∧ (X.fn x = true ∨ X.env.scope.names.lookup x = some .local) := by
  unfold isLoc at h
  unfold L2.Loc
  rw [M.sc]
  simp only [Bool.or_eq_true, Bool.and_eq_true, decide_eq_true_eq] at h
  rcases h with h | ⟨h, h2⟩
  · exact ⟨.inl h, .inr h⟩
  · exact ⟨.inr h, .inl (M.fn x h2)⟩
mutual
theorem cTg_ok (M : Mat X cc cal k) {vs : List Nat} : ∀ {e : Expr} {t : T}, cTg cc e = some t → (∀ i ∈ namesT t, i ∈ vs) → QG X e vs t
  | .Name x pos, t, h, hv => by
    unfold cTg at h
    split at h
    · rename_i hl
      obtain ⟨i, hi, e⟩ := Option.map_eq_some_iff.mp h
      subst e
      obtain ⟨h1, h2⟩ := isLoc_of M hl
      exact QG_n (pg_name M.nd (ix_of M hi) h1 h2) (hv i (by simp [namesT]))
    · cases h
  | .Tuple es kk pos, t, h, hv => by
    unfold cTg at h
    obtain ⟨ts, hts, e⟩ := Option.map_eq_some_iff.mp h
    subst e
    obtain ⟨h1, h2, h3⟩ := cTgs_ok M hts fun i hi => hv i (by simpa [namesT] using hi)
    exact QG_t M.calm h1 h2 h3
  | .BoolOp .., _, h, _ => by simp [cTg] at h
  | .NamedExpr .., _, h, _ => by simp [cTg] at h
  | .BinOp .., _, h, _ => by simp [cTg] at h
  | .UnaryOp .., _, h, _ => by simp [cTg] at h
  | .Lambda .., _, h, _ => by simp [cTg] at h
  | .IfExp .., _, h, _ => by simp [cTg] at h
  | .Dict .., _, h, _ => by simp [cTg] at h
  | .Set .., _, h, _ => by simp [cTg] at h
  | .ListComp .., _, h, _ => by simp [cTg] at h
  | .SetComp .., _, h, _ => by simp [cTg] at h
  | .DictComp .., _, h, _ => by simp [cTg] at h
  | .GeneratorExp .., _, h, _ => by simp [cTg] at h
  | .Await .., _, h, _ => by simp [cTg] at h
  | .Yield .., _, h, _ => by simp [cTg] at h
  | .YieldFrom .., _, h, _ => by simp [cTg] at h
  | .Compare .., _, h, _ => by simp [cTg] at h
  | .Call .., _, h, _ => by simp [cTg] at h
  | .FormattedValue .., _, h, _ => by simp [cTg] at h
  | .JoinedStr .., _, h, _ => by simp [cTg] at h
  | .Constant .., _, h, _ => by simp [cTg] at h
  | .Attribute .., _, h, _ => by simp [cTg] at h
  | .Subscript .., _, h, _ => by simp [cTg] at h
  | .Starred .., _, h, _ => by simp [cTg] at h
  | .List .., _, h, _ => by simp [cTg] at h
  | .Slice .., _, h, _ => by simp [cTg] at h
theorem cTgs_ok (M : Mat X cc cal k) {vs : List Nat} : ∀ {es : List Expr} {ts : Ts}, cTgs cc es = some ts → (∀ i ∈ namesTs ts, i ∈ vs) → QGs X es vs ts ∧ (assignEach es X.env).length = lenTs ts ∧ (assignEach es X.env).findIdx? (·.1) = none
  | [], ts, h, hv => by
    unfold cTgs at h
    cases h
    exact ⟨QGs_nil, rfl, rfl⟩
  | e :: r, ts, h, hv => by
    unfold cTgs at h
    split at h
    · rename_i a b ha hb
      cases h
      have g1 := cTg_ok M ha fun i hi => hv i (by simp [namesTs, hi])
      obtain ⟨g2, g3, g4⟩ := cTgs_ok M hb fun i hi => hv i (by simp [namesTs, hi])
      have hs : assignEach (e :: r) X.env = (false, assign e X.env) :: assignEach r X.env := by
        cases e <;> first | rfl | (simp [cTg] at ha)
      refine ⟨QGs_cons g1 g2 (by rw [hs]; rfl), by rw [hs]; exact congrArg (· + 1) g3, ?_⟩
      rw [hs, List.findIdx?_cons]
      simp [g4]
    · cases h
end
/-! walks -/
theorem blt_of (M : Mat X cc cal k) {x : Str} (h : blt cc x = true) : Gl X x ∧ X.mg x = none ∧ x ≠ "__name__" ∧ (x == ("__debug__" : Str)) = false := by
  unfold blt at h
  simp only [Bool.and_eq_true, decide_eq_true_eq] at h
  obtain ⟨⟨h1, h2⟩, h3⟩ := h
  obtain ⟨n1, n2, _⟩ := okName_of h3
  exact ⟨isGl_of M h2, M.bl x h1, n1, n2⟩
theorem qex_of {f : Expr → Option E} (hf : ∀ e z, f e = some z → QE X e (ev cal z false)) (hv : ∀ e i, f e = some (.v i) → PE X e (tVar i)) {e : Expr} {z : E} (h : f e = some z) : QEx X e (ev cal z false) (vns z) := by
  cases z with
  | v i => exact QEx_v (hv e i h)
  | _ => exact QEx_of (hf e _ h)
theorem isTup_of {tg : Expr} (h : isTup tg = true) : ∃ es kk p, tg = .Tuple es kk p := by
  cases tg <;> first | (cases h; done) | exact ⟨_, _, _, rfl⟩
theorem rngIn_ok {e : Expr} {es : List Expr} (h : rngIn cc e = some es) : ∃ p2 pos2, e = .Call (.Name "range" p2) es [] pos2 ∧ blt cc "range" = true ∧ es.all noStar = true := by
  unfold rngIn at h
  split at h
  · split at h
    · rename_i hc
      obtain ⟨rfl, h1, h2⟩ := hc
      cases h
      exact ⟨_, _, rfl, h1, h2⟩
    · cases h
  · cases h
theorem cIx_ok (M : Mat X cc cal k) {x : Str} {t : String} (h : cIx cc x = some t) : Gl X x ∧ X.mg x = some (.type t) ∧ (x == ("__debug__" : Str)) = false := by
  unfold cIx at h
  split at h
  · rename_i t' hv
    split at h
    · rename_i hc
      cases h
      obtain ⟨_, n2, _⟩ := okName_of hc.2
      exact ⟨isGl_of M hc.1, M.im x _ hv, n2⟩
    · cases h
  · cases h
theorem pm_ok (M : Mat X cc cal k) {f : Expr → Option E} (hf : ∀ e z, f e = some z → QE X e (ev cal z false)) {tg a : Expr} {x : Str} {p pos : Pos} {z : I} (h : cPm f cc x a = some z) : QIx X tg (.Call (.Name x p) [a] [] pos) (evi cal z) (vnI z) := by
  unfold cPm at h
  split at h
  · rename_i hx
    obtain ⟨g1, g2, g3⟩ := cIx_ok M hx
    split at h
    · rename_i b hr
      obtain ⟨p2, pos2, rfl, hb, hs⟩ := rngIn_ok hr
      obtain ⟨y, hy, e2⟩ := Option.map_eq_some_iff.mp h
      subst e2
      obtain ⟨g4, g5, _⟩ := blt_of M hb
      exact QI_pmR M.calm g1 g2 g3 g4 g5 (hf _ _ hy) (by simpa using hs)
    · cases h
  · cases h
theorem cb_ok (M : Mat X cc cal k) {f : Expr → Option E} (hf : ∀ e z, f e = some z → QE X e (ev cal z false)) {tg a b : Expr} {x : Str} {p pos : Pos} {z : I} (h : cCb f cc x a b = some z) : QIx X tg (.Call (.Name x p) [a, b] [] pos) (evi cal z) (vnI z) := by
  unfold cCb at h
  split at h
  · rename_i hx
    obtain ⟨g1, g2, g3⟩ := cIx_ok M hx.1
    split at h
    · rename_i c hr
      obtain ⟨p2, pos2, rfl, hb, hs⟩ := rngIn_ok hr
      obtain ⟨g4, g5, _⟩ := blt_of M hb
      split at h
      · rename_i y1 y2 h1 h2
        cases h
        exact QI_cbR M.calm g1 g2 g3 g4 g5 (hf _ _ h1) (hf _ _ h2) (by simpa using hs) hx.2
      · cases h
    · cases h
    · split at h
      · rename_i hs
        split at h
        · rename_i y1 y2 h1 h2
          cases h
          exact QI_cbV M.calm g1 g2 g3 (hf _ _ h1) (hf _ _ h2) hs hx.2
        · cases h
      · cases h
  · cases h
theorem it_ok (M : Mat X cc cal k) {f : Expr → Option E} (hf : ∀ e z, f e = some z → QE X e (ev cal z false)) (hv : ∀ e i, f e = some (.v i) → PE X e (tVar i)) {tg e : Expr} {z : I} (h : cIt f cc tg e = some z) : QIx X tg e (evi cal z) (vnI z) := by
  have pl : ∀ {z : I}, (f e).map I.e = some z → QIx X tg e (evi cal z) (vnI z) := fun {z} h => by
    obtain ⟨y, hy, e2⟩ := Option.map_eq_some_iff.mp h
    subst e2
    exact QI_e (qex_of hf hv hy)
  unfold cIt at h
  split at h
  · split at h
    · rename_i hc
      obtain ⟨rfl, hb, hs⟩ := hc
      obtain ⟨y, hy, e2⟩ := Option.map_eq_some_iff.mp h
      subst e2
      obtain ⟨g1, g2, _⟩ := blt_of M hb
      exact QI_r1 g1 g2 (hf _ _ hy) hs
    · split at h
      · rename_i hc
        obtain ⟨rfl, hb, hs, ht⟩ := hc
        obtain ⟨y, hy, e2⟩ := Option.map_eq_some_iff.mp h
        subst e2
        obtain ⟨g1, g2, _⟩ := blt_of M hb
        obtain ⟨es, kk, p, rfl⟩ := isTup_of ht
        exact QI_enm g1 g2 (qex_of hf hv hy) hs
      · split at h
        · rename_i hz
          cases h
          exact pm_ok M hf hz
        · exact pl h
  · split at h
    · rename_i hc
      obtain ⟨rfl, hb, hs, hs2, hs3⟩ := hc
      split at h
      · rename_i p q r hp hq hr
        cases h
        obtain ⟨g1, g2, _⟩ := blt_of M hb
        exact QI_r3 g1 g2 (hf _ _ hp) (hf _ _ hq) (hf _ _ hr) hs hs2 hs3
      · cases h
    · exact pl h
  · split at h
    · rename_i hc
      obtain ⟨rfl, hb, hs, hs2⟩ := hc
      split at h
      · rename_i p q hp hq
        cases h
        obtain ⟨g1, g2, _⟩ := blt_of M hb
        exact QI_r2 g1 g2 (hf _ _ hp) (hf _ _ hq) hs hs2
      · cases h
    · split at h
      · rename_i hc
        obtain ⟨rfl, hb, hs, hs2, ht⟩ := hc
        split at h
        · rename_i p q hp hq
          cases h
          obtain ⟨g1, g2, _⟩ := blt_of M hb
          obtain ⟨es, kk, p, rfl⟩ := isTup_of ht
          exact QI_zip g1 g2 (qex_of hf hv hp) (qex_of hf hv hq) (hf _ _ hq) hs hs2
        · cases h
      · split at h
        · rename_i hz
          cases h
          exact cb_ok M hf hz
        · exact pl h
  · exact pl h
/-! calls -/
theorem imN_ok {v : Value} {id : String} {g : Bi} (h : imN v = some (id, g)) : v = .builtin id ∧ ∀ X : Cx, CallR X (.builtin id) (rB X.K g) := by
  unfold imN at h
  split at h
  · split at h
    · rename_i e
      cases h
      subst e
      exact ⟨rfl, fun X => b_gcd⟩
    · cases h
  · cases h
theorem im_ok (M : Mat X cc cal k) {f : Expr → Option E} (hf : ∀ e z, f e = some z → QE X e (ev cal z false)) {x : Str} {es : List Expr} {z : E} (h : cIm f cc x es = some z) : QE X (.Call (.Name x p) es [] pos) (ev cal z false) := by
  unfold cIm at h
  split at h
  · rename_i id g hi
    split at h
    · rename_i hc
      obtain ⟨h1, h2, h3⟩ := hc
      obtain ⟨v, hv, e⟩ := Option.bind_eq_some_iff.mp hi
      obtain ⟨rfl, cr⟩ := imN_ok e
      obtain ⟨zs, hl, e⟩ := Option.map_eq_some_iff.mp h
      subst e
      obtain ⟨q1, q2⟩ := list_ok hf hl
      obtain ⟨_, n2, _⟩ := okName_of h2
      cases es with
      | nil => exact absurd rfl h3
      | cons e r => exact Q_bf (cr X) (isGl_of M h1) (M.im x _ hv) n2 q1 q2
    · cases h
  · cases h
theorem rngV_rep {K : PySem.W.Frag} {H : Hp} (a b : Int) : Reps K H true (rgV a b) (rngD a b) [] := by
  unfold rgV rngD
  induction List.range (b - a).toNat with
  | nil => exact .nil
  | cons i r ih => exact Reps.cons (f := []) (fs := []) (.int _) ih
theorem rng_fz (a b : Int) : fzs (rngD a b) = true := by
  unfold rngD
  induction List.range (b - a).toNat with
  | nil => rfl
  | cons i r ih => simp only [List.map_cons, fzs, fz, ih]; rfl
theorem one_fr {H H1 : Hp} {q : Addr} (s : Same H H1) (h : H1 q = none) : (∀ a ∈ [q], H a = none) := fun a m => by rw [List.mem_singleton.mp m]; exact s.free h
/-- list(range(..)), tuple(range(..)) -/
theorem Q_lr1 {a : Expr} {ea : E} {p2 pos2 : Pos} (M : Mat X cc cal k) (hl : blt cc "list" = true) (hr : blt cc "range" = true) (ha : QE X a (ev cal ea false)) (hs : noStar a = true) :
    QE X (.Call (.Name "list" p) [.Call (.Name "range" p2) [a] [] pos2] [] pos) (ev cal (.bi .listRng1 (.cons ea .nil)) false) := by
  obtain ⟨g1, g2, _⟩ := blt_of M hl
  obtain ⟨g3, g4, _⟩ := blt_of M hr
  refine pe_imp (pe_listRg M.calm g1 g2 (prg_1 g3 g4 ha (star_of hs))) fun σ H Q ⟨ρ, φ, b, d, R, e, q⟩ => ?_
  simp only [ev, fin, Bool.false_eq_true, if_false, evs] at e
  split at e
  · cases e
  rename_i ps e1
  split at e1
  · cases e1
  rename_i pq e2
  cases e1
  obtain ⟨b1, d1⟩ := pq
  cases d1 with
  | int n =>
    simp only [biD] at e
    split at e
    · rename_i hn
      simp only [Option.some.injEq, Prod.mk.injEq] at e
      obtain ⟨rfl, rfl⟩ := e
      exact ⟨ρ, φ, b1, _, R, e2, fun v H1 g G => ⟨n, G.rep.i.1, ⟨by decide, by decide, by omega, by omega, by omega⟩, fun w hw => q _ _ [w] ⟨G.same.trans (same_new hw), (rngV_rep 0 n).newLst hw, fun _ => ⟨by simp, one_fr G.same hw⟩, fun a m => .inl (one_fr G.same hw a m)⟩⟩⟩
    · cases e
  | _ => simp [biD] at e
theorem Q_tr1 {a : Expr} {ea : E} {p2 pos2 : Pos} (M : Mat X cc cal k) (hl : blt cc "tuple" = true) (hr : blt cc "range" = true) (ha : QE X a (ev cal ea false)) (hs : noStar a = true) :
    QE X (.Call (.Name "tuple" p) [.Call (.Name "range" p2) [a] [] pos2] [] pos) (ev cal (.bi .tupRng1 (.cons ea .nil)) false) := by
  obtain ⟨g1, g2, _⟩ := blt_of M hl
  obtain ⟨g3, g4, _⟩ := blt_of M hr
  refine pe_imp (pe_tupRg M.calm g1 g2 (prg_1 g3 g4 ha (star_of hs))) fun σ H Q ⟨ρ, φ, b, d, R, e, q⟩ => ?_
  simp only [ev, fin, Bool.false_eq_true, if_false, evs] at e
  split at e
  · cases e
  rename_i ps e1
  split at e1
  · cases e1
  rename_i pq e2
  cases e1
  obtain ⟨b1, d1⟩ := pq
  cases d1 with
  | int n =>
    simp only [biD] at e
    split at e
    · rename_i hn
      simp only [Option.some.injEq, Prod.mk.injEq] at e
      obtain ⟨rfl, rfl⟩ := e
      exact ⟨ρ, φ, b1, _, R, e2, fun v H1 g G => ⟨n, G.rep.i.1, ⟨by decide, by decide, by omega, by omega, by omega⟩, fun w hw => q _ _ [] (Got.scalar (G.same.trans (same_new hw)) ((rngV_rep 0 n).newTup hw))⟩⟩
    · cases e
  | _ => simp [biD] at e
theorem Q_lr2 {a c : Expr} {ea ec : E} {p2 pos2 : Pos} (M : Mat X cc cal k) (hl : blt cc "list" = true) (hr : blt cc "range" = true) (ha : QE X a (ev cal ea false)) (hc : QE X c (ev cal ec false)) (hs : noStar a = true) (hs2 : noStar c = true) :
    QE X (.Call (.Name "list" p) [.Call (.Name "range" p2) [a, c] [] pos2] [] pos) (ev cal (.bi .listRng2 (.cons ea (.cons ec .nil))) false) := by
  obtain ⟨g1, g2, _⟩ := blt_of M hl
  obtain ⟨g3, g4, _⟩ := blt_of M hr
  refine pe_imp (pe_listRg M.calm g1 g2 (prg_2 g3 g4 ha hc (star_of hs) (star_of hs2) (star_any (es := [c]) (by simp [hs2])))) fun σ H Q ⟨ρ, φ, b, d, R, e, q⟩ => ?_
  simp only [ev, fin, Bool.false_eq_true, if_false, evs] at e
  split at e
  · cases e
  rename_i ps e1
  split at e1
  · cases e1
  rename_i pq e2
  split at e1
  · cases e1
  rename_i ps2 e3
  split at e3
  · cases e3
  rename_i pq2 e4
  cases e3
  cases e1
  obtain ⟨b1, d1⟩ := pq
  obtain ⟨b2, d2⟩ := pq2
  cases d1 with
  | int m =>
    cases d2 with
    | int n =>
      simp only [biD] at e
      split at e
      · rename_i hn
        simp only [Option.some.injEq, Prod.mk.injEq] at e
        obtain ⟨rfl, rfl⟩ := e
        exact ⟨ρ, φ, b1, _, R, e2, fun v H1 g G => ⟨ρ, φ, b2, _, R.same G.same, e4, fun v2 H2 g2 G2 => ⟨m, n, G.rep.i.1, G2.rep.i.1, ⟨by omega, by omega, by omega, by omega, by omega⟩, fun w hw => q _ _ [w] ⟨(G.same.trans G2.same).trans (same_new hw), (rngV_rep m n).newLst hw, fun _ => ⟨by simp, one_fr (G.same.trans G2.same) hw⟩, fun a m => .inl (one_fr (G.same.trans G2.same) hw a m)⟩⟩⟩⟩
      · cases e
    | _ => simp [biD] at e
  | _ => simp [biD] at e
theorem Q_tr2 {a c : Expr} {ea ec : E} {p2 pos2 : Pos} (M : Mat X cc cal k) (hl : blt cc "tuple" = true) (hr : blt cc "range" = true) (ha : QE X a (ev cal ea false)) (hc : QE X c (ev cal ec false)) (hs : noStar a = true) (hs2 : noStar c = true) :
    QE X (.Call (.Name "tuple" p) [.Call (.Name "range" p2) [a, c] [] pos2] [] pos) (ev cal (.bi .tupRng2 (.cons ea (.cons ec .nil))) false) := by
  obtain ⟨g1, g2, _⟩ := blt_of M hl
  obtain ⟨g3, g4, _⟩ := blt_of M hr
  refine pe_imp (pe_tupRg M.calm g1 g2 (prg_2 g3 g4 ha hc (star_of hs) (star_of hs2) (star_any (es := [c]) (by simp [hs2])))) fun σ H Q ⟨ρ, φ, b, d, R, e, q⟩ => ?_
  simp only [ev, fin, Bool.false_eq_true, if_false, evs] at e
  split at e
  · cases e
  rename_i ps e1
  split at e1
  · cases e1
  rename_i pq e2
  split at e1
  · cases e1
  rename_i ps2 e3
  split at e3
  · cases e3
  rename_i pq2 e4
  cases e3
  cases e1
  obtain ⟨b1, d1⟩ := pq
  obtain ⟨b2, d2⟩ := pq2
  cases d1 with
  | int m =>
    cases d2 with
    | int n =>
      simp only [biD] at e
      split at e
      · rename_i hn
        simp only [Option.some.injEq, Prod.mk.injEq] at e
        obtain ⟨rfl, rfl⟩ := e
        exact ⟨ρ, φ, b1, _, R, e2, fun v H1 g G => ⟨ρ, φ, b2, _, R.same G.same, e4, fun v2 H2 g2 G2 => ⟨m, n, G.rep.i.1, G2.rep.i.1, ⟨by omega, by omega, by omega, by omega, by omega⟩, fun w hw => q _ _ [] (Got.scalar ((G.same.trans G2.same).trans (same_new hw)) ((rngV_rep m n).newTup hw))⟩⟩⟩
      · cases e
    | _ => simp [biD] at e
  | _ => simp [biD] at e
/-- a built-in by its name -/
theorem biN_get {x : Str} {n : Nat} {r : String × Bool × Bi} (h : biN x n = some r) : (x, n, r) ∈ biT := by
  unfold biN at h
  obtain ⟨y, hy, rfl⟩ := Option.map_eq_some_iff.mp h
  have h1 := List.find?_some hy
  simp only [Bool.and_eq_true, decide_eq_true_eq] at h1
  obtain ⟨rfl, rfl⟩ := h1
  exact List.mem_of_find?_eq_some hy
theorem biN_ok (M : Mat X cc cal k) {x : Str} {n : Nat} {id : String} {ty : Bool} {g : Bi} (h : biN x n = some (id, ty, g)) :
    (ty = false ∧ CallR X (.builtin id) (rB X.K g) ∧ bootBuiltins x = some (.builtin id)) ∨ (ty = true ∧ CallR X (.type id) (rB X.K g) ∧ bootBuiltins x = some (.type id)) := by
  have hc := M.calm
  have hu : X.A.units + 70 < cLine := by have := M.room.un; omega
  have hm := biN_get h
  clear h
  unfold biT at hm
  simp only [List.mem_cons, Prod.mk.injEq, List.not_mem_nil, or_false] at hm
  rcases hm with ⟨rfl, _, rfl, rfl, rfl⟩ | ⟨rfl, _, rfl, rfl, rfl⟩ | ⟨rfl, _, rfl, rfl, rfl⟩ | ⟨rfl, _, rfl, rfl, rfl⟩ | ⟨rfl, _, rfl, rfl, rfl⟩ | ⟨rfl, _, rfl, rfl, rfl⟩ | ⟨rfl, _, rfl, rfl, rfl⟩ | ⟨rfl, _, rfl, rfl, rfl⟩ | ⟨rfl, _, rfl, rfl, rfl⟩ | ⟨rfl, _, rfl, rfl, rfl⟩ | ⟨rfl, _, rfl, rfl, rfl⟩ | ⟨rfl, _, rfl, rfl, rfl⟩ | ⟨rfl, _, rfl, rfl, rfl⟩ | ⟨rfl, _, rfl, rfl, rfl⟩
  · exact .inl ⟨rfl, b_len hc, by decide +kernel⟩
  · exact .inl ⟨rfl, b_abs, by decide +kernel⟩
  · exact .inr ⟨rfl, b_int, by decide +kernel⟩
  · exact .inl ⟨rfl, b_sum hc, by decide +kernel⟩
  · exact .inl ⟨rfl, b_max1 hc, by decide +kernel⟩
  · exact .inl ⟨rfl, b_min1 hc, by decide +kernel⟩
  · exact .inr ⟨rfl, b_list, by decide +kernel⟩
  · exact .inr ⟨rfl, b_tuple, by decide +kernel⟩
  · exact .inl ⟨rfl, b_any hc, by decide +kernel⟩
  · exact .inl ⟨rfl, b_all hc, by decide +kernel⟩
  · exact .inl ⟨rfl, b_sorted hc hu, by decide +kernel⟩
  · exact .inr ⟨rfl, b_str, by decide +kernel⟩
  · exact .inl ⟨rfl, b_max2 hc, by decide +kernel⟩
  · exact .inl ⟨rfl, b_min2 hc, by decide +kernel⟩
theorem biN_pos {x : Str} {n : Nat} {r} (h : biN x n = some r) : n ≠ 0 := by
  have hm := biN_get h
  intro e
  subst e
  unfold biT at hm
  simp only [List.mem_cons, Prod.mk.injEq, List.not_mem_nil, or_false] at hm
  rcases hm with ⟨_, z, _⟩ | ⟨_, z, _⟩ | ⟨_, z, _⟩ | ⟨_, z, _⟩ | ⟨_, z, _⟩ | ⟨_, z, _⟩ | ⟨_, z, _⟩ | ⟨_, z, _⟩ | ⟨_, z, _⟩ | ⟨_, z, _⟩ | ⟨_, z, _⟩ | ⟨_, z, _⟩ | ⟨_, z, _⟩ | ⟨_, z, _⟩ <;> exact absurd z (by decide)
theorem bi_ok (M : Mat X cc cal k) {f : Expr → Option E} (hf : ∀ e z, f e = some z → QE X e (ev cal z false)) {x : Str} {es : List Expr} {zs : Es} {id : String} {ty : Bool} {g : Bi} (hb : blt cc x = true) (h : biN x es.length = some (id, ty, g)) (hl : cList f es = some zs) :
    QE X (.Call (.Name x p) es [] pos) (ev cal (.bi g zs) false) := by
  obtain ⟨g1, g2, g3, g4⟩ := blt_of M hb
  obtain ⟨q1, q2⟩ := list_ok hf hl
  cases es with
  | nil => exact absurd rfl (biN_pos h)
  | cons e r =>
    rcases biN_ok M h with ⟨_, a, b⟩ | ⟨_, a, b⟩
    · exact Q_bi a b g1 g2 g3 g4 q1 q2
    · exact Q_bt a b g1 g2 g3 g4 q1 q2
theorem isaN_ok {x : Str} {T : String} {g : Bi} (h : isaN x = some (T, g)) : isB T = some g ∧ bootBuiltins x = some (.type T) := by
  unfold isaN at h
  split at h
  · rename_i e; cases h; subst e; exact ⟨rfl, by decide +kernel⟩
  split at h
  · rename_i e; cases h; subst e; exact ⟨rfl, by decide +kernel⟩
  split at h
  · rename_i e; cases h; subst e; exact ⟨rfl, by decide +kernel⟩
  split at h
  · rename_i e; cases h; subst e; exact ⟨rfl, by decide +kernel⟩
  cases h
theorem setIn_ok {cc : CC} {es : List Expr} {a : Expr} (h : setIn cc es = some a) : ∃ p pos, es = [.Call (.Name "set" p) [a] [] pos] ∧ blt cc "set" = true ∧ noStar a = true := by
  unfold setIn at h
  split at h
  · split at h
    · rename_i hc
      cases h
      obtain ⟨rfl, h1, h2⟩ := hc
      exact ⟨_, _, rfl, h1, h2⟩
    · cases h
  · cases h
theorem call_ok (M : Mat X cc cal k) {f : Expr → Option E} (hf : ∀ e z, f e = some z → QE X e (ev cal z false)) {x : Str} {es : List Expr} {z : E} (h : cCall f cc x es = some z) : QE X (.Call (.Name x p) es [] pos) (ev cal z false) := by
  unfold cCall at h
  split at h
  · rename_i hi
    cases h
    exact im_ok M hf hi
  rename_i hno
  clear hno
  split at h
  · rename_i g n hg
    split at h
    · rename_i hc
      obtain ⟨h1, h2, h3⟩ := hc
      obtain ⟨zs, hl, e⟩ := Option.map_eq_some_iff.mp h
      subst e
      obtain ⟨q1, q2⟩ := list_ok hf hl
      obtain ⟨fa, fd, ps, m1, m2, m3, m4, m5⟩ := M.fns x g n hg
      obtain ⟨_, n2, _⟩ := okName_of h2
      cases es with
      | nil =>
        cases hl
        exact Q_cal0 (E := fun _ _ _ => False) m4 M.room (isGl_of M h1) m1 m2 m3 pass0 n2 m5
      | cons e r => exact Q_cal (E := fun _ _ _ => False) m4 M.room (isGl_of M h1) m1 m2 m3 pass0 n2 m5 q1 q2
    · cases h
  · split at h
    · rename_i hb
      split at h
      · rename_i b e hbe
        have hx : (x = "list" ∧ b = .listRng1) ∨ (x = "tuple" ∧ b = .tupRng1) := by
          split at hbe
          · rename_i e1; cases hbe; exact .inl ⟨e1, rfl⟩
          · split at hbe
            · rename_i e1; cases hbe; exact .inr ⟨e1, rfl⟩
            · cases hbe
        split at h
        · rename_i a hr
          obtain ⟨p2, pos2, rfl, hr2, hs⟩ := rngIn_ok hr
          obtain ⟨y, hy, e⟩ := Option.map_eq_some_iff.mp h
          subst e
          rcases hx with ⟨rfl, rfl⟩ | ⟨rfl, rfl⟩
          · exact Q_lr1 M hb hr2 (hf _ _ hy) (by simpa using hs)
          · exact Q_tr1 M hb hr2 (hf _ _ hy) (by simpa using hs)
        · rename_i a c hr
          obtain ⟨p2, pos2, rfl, hr2, hs⟩ := rngIn_ok hr
          have hs' : noStar a = true ∧ noStar c = true := by simpa using hs
          split at h
          · rename_i y w hy hw
            cases h
            rcases hx with ⟨rfl, rfl⟩ | ⟨rfl, rfl⟩
            · exact Q_lr2 M hb hr2 (hf _ _ hy) (hf _ _ hw) hs'.1 hs'.2
            · exact Q_tr2 M hb hr2 (hf _ _ hy) (hf _ _ hw) hs'.1 hs'.2
          · cases h
        · cases h
        · split at h
          · rename_i id ty g hn
            obtain ⟨zs, hl, e⟩ := Option.map_eq_some_iff.mp h
            subst e
            exact bi_ok M hf hb hn hl
          · cases h
      · split at h
        · rename_i hx
          subst hx
          split at h
          · split at h
            · rename_i hc
              split at h
              · rename_i T g w hi hw
                cases h
                obtain ⟨g1, g2, g3, g4⟩ := blt_of M hb
                obtain ⟨g5, g6, g7, g8⟩ := blt_of M hc.1
                obtain ⟨i1, i2⟩ := isaN_ok hi
                exact Q_isi i1 i2 (hf _ _ hw) hc.2 g1 g2 g5 g6 g7 g8
              · cases h
            · cases h
          · cases h
        · split at h
          · rename_i a hs
            split at hs
            · rename_i hx2
              subst hx2
              obtain ⟨y, hy, e⟩ := Option.map_eq_some_iff.mp h
              subst e
              obtain ⟨p2, pos2, rfl, hb2, hn2⟩ := setIn_ok hs
              obtain ⟨g1, g2, g3, g4⟩ := blt_of M hb
              obtain ⟨g5, g6, g7, g8⟩ := blt_of M hb2
              exact Q_lset M.calm g1 g2 g5 g6 (hf _ _ hy) hn2
            · cases hs
          split at h
          · rename_i a hs
            split at hs
            · rename_i hx2
              subst hx2
              obtain ⟨y, hy, e⟩ := Option.map_eq_some_iff.mp h
              subst e
              obtain ⟨p2, pos2, rfl, hb2, hn2⟩ := setIn_ok hs
              obtain ⟨g1, g2, g3, g4⟩ := blt_of M hb
              obtain ⟨g5, g6, g7, g8⟩ := blt_of M hb2
              exact Q_sset M.calm (by have := M.room.un; omega) g1 g2 g5 g6 (hf _ _ hy) hn2
            · cases hs
          · split at h
            · rename_i id ty g hn
              obtain ⟨zs, hl, e⟩ := Option.map_eq_some_iff.mp h
              subst e
              exact bi_ok M hf hb hn hl
            · cases h
    · cases h
theorem plain_ix {b : Expr} (h : notSlice b = true) : PlainIx b := by
  cases b <;> first | (cases h; done) | exact fun _ _ => rfl
theorem plain_ix2 {b : Expr} (h : notSl2 b = true) : PlainIx b := by
  cases b <;> first | (cases h; done) | exact fun _ _ => rfl
theorem sub_ok (M : Mat X cc cal k) {f : Expr → Option E} (hf : ∀ e z, f e = some z → QE X e (ev cal z false)) {a b : Expr} {z : E} (h : cSub f a b = some z) : QE X (.Subscript a b pos) (ev cal z false) := by
  unfold cSub at h
  split at h
  · split at h
    · rename_i x l u hx hl hu
      cases h
      exact Q_sl (hf _ _ hx) (opt_ok hf hl) (opt_ok hf hu)
    · cases h
  · split at h
    · rename_i hi
      subst hi
      obtain ⟨y, hy, e⟩ := Option.map_eq_some_iff.mp h
      subst e
      exact Q_rev (hf _ _ hy)
    · cases h
  · split at h
    · rename_i hn
      split at h
      · rename_i x y hx hy
        cases h
        have hu : X.A.units + 1 < cLine := by have := M.room.un; omega
        exact Q_ix hu (plain_ix2 hn) (hf _ _ hx) (hf _ _ hy)
      · cases h
    · cases h
theorem ifs_ok {f : Expr → Option E} (hf : ∀ e z, f e = some z → QT X e (ev cal z true)) {es : List Expr} {z : Eo} (h : cIfs f es = some z) : QTs X es (evt cal z) := by
  unfold cIfs at h
  split at h
  · cases h; exact QTs_no
  · obtain ⟨y, hy, e⟩ := Option.map_eq_some_iff.mp h
    subst e
    exact QTs_so (hf _ _ hy)
  · cases h
theorem lc_ok (M : Mat X cc cal k) {f : Cf} (hf : Sd cal k f) {elt : Expr} {gens : List Comprehension} {scope : Scope} {z : E} (h : cLc f cc elt gens scope = some z) : QE X (.ListComp elt gens scope pos) (ev cal z false) := by
  have he0 : ∀ e z, f cc false e = some z → QE X e (ev cal z false) := fun e z => (hf X cc M e z).1
  have hv0 : ∀ e i, f cc false e = some (.v i) → PE X e (tVar i) := fun e i => (hf X cc M e (.v i)).2.2 i
  unfold cLc at h
  split at h
  · rename_i hb
    have ok : BlkOk X.N X.env.scope scope (ownOf cc scope) := by rw [M.hN, M.sc]; exact blkOk_by hb
    split at h
    · split at h
      · rename_i hs
        split at h
        · rename_i s t i e h1 h2 h3 h4
          split at h
          · rename_i hn
            cases h
            have hn' : ∀ j ∈ namesT t, j ∈ (ownOf cc scope).map (·.2) := fun j hj => of_decide_eq_true (List.all_eq_true.mp hn j hj)
            exact Q_lc M.calm M.nd (QI_of (it_ok M he0 hv0 h1)) ok (fun s H C cl fp => cTg_ok (M.blk s H scope C cl fp) h2 hn') (fun s H C cl fp => ifs_ok (fun e z hz => (hf _ _ (M.blk s H scope C cl fp) e z).2.1 hz) h3)
              (fun s H C cl fp => (hf _ _ (M.blk s H scope C cl fp) _ _).1 h4) hs
          · cases h
        · cases h
      · cases h
    · split at h
      · rename_i hs
        rw [Bool.and_eq_true] at hs
        split at h
        · rename_i s t s1 t1 e h1 h2 h3 h4 h5
          split at h
          · rename_i hn
            rw [Bool.and_eq_true] at hn
            cases h
            have hn' : ∀ j ∈ namesT t, j ∈ (ownOf cc scope).map (·.2) := fun j hj => of_decide_eq_true (List.all_eq_true.mp hn.1 j hj)
            have hn2 : ∀ j ∈ namesT t1, j ∈ (ownOf cc scope).map (·.2) := fun j hj => of_decide_eq_true (List.all_eq_true.mp hn.2 j hj)
            exact Q_lc2 M.calm M.nd (QI_of (it_ok M he0 hv0 h1)) ok hn2 (fun s H C cl fp => cTg_ok (M.blk s H scope C cl fp) h2 hn')
              (fun s H C cl fp => QI_of (it_ok (M.blk s H scope C cl fp) (fun e z => (hf _ _ (M.blk s H scope C cl fp) e z).1) (fun e i => (hf _ _ (M.blk s H scope C cl fp) e (.v i)).2.2 i) h3))
              (fun s H C cl fp => cTg_ok (M.blk s H scope C cl fp) h4 fun i hi => hi) (fun s H C cl fp => (hf _ _ (M.blk s H scope C cl fp) _ _).1 h5) hs.1 hs.2
          · cases h
        · cases h
      · cases h
    · cases h
  · cases h
theorem dc_ok (M : Mat X cc cal k) {f : Cf} (hf : Sd cal k f) {key val : Expr} {gens : List Comprehension} {scope : Scope} {z : E} (h : cDc f cc key val gens scope = some z) : QE X (.DictComp key val gens scope pos) (ev cal z false) := by
  have he0 : ∀ e z, f cc false e = some z → QE X e (ev cal z false) := fun e z => (hf X cc M e z).1
  have hv0 : ∀ e i, f cc false e = some (.v i) → PE X e (tVar i) := fun e i => (hf X cc M e (.v i)).2.2 i
  unfold cDc at h
  split at h
  · rename_i hb
    have ok : BlkOk X.N X.env.scope scope (ownOf cc scope) := by rw [M.hN, M.sc]; exact blkOk_by hb
    split at h
    · split at h
      · rename_i hs
        split at h
        · rename_i s t i kk e h1 h2 h3 h4 h5
          split at h
          · rename_i hn
            cases h
            have hn' : ∀ j ∈ namesT t, j ∈ (ownOf cc scope).map (·.2) := fun j hj => of_decide_eq_true (List.all_eq_true.mp hn j hj)
            exact Q_dc M.calm M.nd (QI_of (it_ok M he0 hv0 h1)) ok (fun s H C cl fp => cTg_ok (M.blk s H scope C cl fp) h2 hn') (fun s H C cl fp => ifs_ok (fun e z hz => (hf _ _ (M.blk s H scope C cl fp) e z).2.1 hz) h3)
              (fun s H C cl fp => (hf _ _ (M.blk s H scope C cl fp) _ _).1 h4) (fun s H C cl fp => (hf _ _ (M.blk s H scope C cl fp) _ _).1 h5) hs
          · cases h
        · cases h
      · cases h
    · cases h
  · cases h
theorem ga_ok (M : Mat X cc cal k) {f : Cf} (hf : Sd cal k f) {x : Str} {elt : Expr} {gens : List Comprehension} {scope : Scope} {gpos : Pos} {z : E} (h : cGa f cc x elt gens scope = some z) : QE X (.Call (.Name x p) [.GeneratorExp elt gens scope gpos] [] pos) (ev cal z false) := by
  have he0 : ∀ e z, f cc false e = some z → QE X e (ev cal z false) := fun e z => (hf X cc M e z).1
  have hv0 : ∀ e i, f cc false e = some (.v i) → PE X e (tVar i) := fun e i => (hf X cc M e (.v i)).2.2 i
  unfold cGa at h
  split at h
  · rename_i hb
    simp only [Bool.and_eq_true] at hb
    obtain ⟨⟨⟨hgen, hbl⟩, hblk⟩, hsc⟩ := hb
    have ok : BlkOk X.N X.env.scope scope (ownOf cc scope) := by rw [M.hN, M.sc]; exact blkOk_by hblk
    unfold genScC at hsc
    simp only [Bool.and_eq_true, List.all_eq_true, Bool.not_eq_true', decide_eq_false_iff_not, decide_eq_true_eq] at hsc
    obtain ⟨⟨s1, s2⟩, s3⟩ := hsc
    obtain ⟨hroom, c, P, hcode, hP, hPn, TB⟩ := M.code hgen
    obtain ⟨g1, g2, g3, g4⟩ := blt_of M hbl
    split at h
    · rename_i al tg iter ifs hal
      split at h
      · rename_i hs
        rw [Bool.and_eq_true] at hs
        split at h
        · rename_i s t i e h1 h2 h3 h4
          split at h
          · rename_i hn
            cases h
            have hn' : ∀ j ∈ namesT t, j ∈ (ownOf cc scope).map (·.2) := fun j hj => of_decide_eq_true (List.all_eq_true.mp hn j hj)
            have hfold : ∀ v, genFold iter X.env v = pure v := fun v => by
              have e0 : genFold iter X.env v = foldedSetIterable iter X.env v := by
                cases iter <;> first | rfl | exact absurd hs.2 (by simp [notList])
              rw [e0]; exact folded_of hs.1 v
            have hx : x = (if al then ("all" : Str) else ("any" : Str)) := by
              unfold gaN at hal
              split at hal
              · rename_i e; cases hal; exact e
              · split at hal
                · rename_i e; cases hal; exact e
                · cases hal
            subst hx
            refine pe_imp (GenY.pe_ga (al := al) (elt := elt) (tg := tg) (ifs := ifs) (wi := tI X.K (evi cal s)) (g := tG X.K ((ownOf cc scope).map (·.2)) t) (tt := tT X.K (evt cal i)) (te := tQ X.K (ev cal e false)) M.calm (by have := hroom.dp; omega) g1 g2 TB hcode ok s1 s2 s3 M.nd (QI_of (it_ok M he0 hv0 h1)) hfold
              (fun s H C code fp A' hA => cTg_ok (M.gblk hgen s H scope C code fp A' hA) h2 hn') (fun s H C code fp A' hA => ifs_ok (fun e z hz => (hf _ _ (M.gblk hgen s H scope C code fp A' hA) e z).2.1 hz) h3)
              (fun s H C code fp A' hA => (hf _ _ (M.gblk hgen s H scope C code fp A' hA) _ _).1 h4)) fun σ H Q hq => ga_read hP hPn hq
          · cases h
        · cases h
      · cases h
    · cases h
  · cases h
theorem mt_ok {f : Expr → Option E} (hf : ∀ e z, f e = some z → QE X e (ev cal z false)) {o e : Expr} {m : Str} {apos cpos : Pos} {z : E} (h : cMt f o m apos e cpos = some z) : QE X (.Call (.Attribute o m apos) [e] [] cpos) (ev cal z false) := by
  unfold cMt at h
  split at h
  · rename_i hc
    simp only [Bool.and_eq_true] at hc
    obtain ⟨⟨h1, h2⟩, h3⟩ := hc
    split at h
    · rename_i b x y hb hx hy
      cases h
      unfold mtN at hb
      obtain ⟨r, hr, rfl⟩ := Option.map_eq_some_iff.mp hb
      have hm : r.1 = m := of_decide_eq_true (List.find?_some (p := fun r : Str × Bi => decide (r.1 = m)) hr)
      have hmem := List.mem_of_find?_eq_some hr
      subst hm
      simp only [mtT, List.mem_cons, List.mem_nil_iff, or_false] at hmem
      rcases hmem with rfl | rfl | rfl
      · exact Q_join (hf _ _ hx) (hf _ _ hy) h1 h2 h3
      · exact Q_count (hf _ _ hx) (hf _ _ hy) h1 h2 h3
      · exact Q_sidx (hf _ _ hx) (hf _ _ hy) h1 h2 h3
    · cases h
  · cases h
/-- plain forms: what no test breaks -/
def plainE : E → Prop
  | .nt _ => False
  | .an _ _ => False
  | .ro _ _ => False
  | .ite _ _ _ => False
  | _ => True
theorem call_pl {f : Expr → Option E} {x : Str} {es : List Expr} {z : E} (h : cCall f cc x es = some z) : plainE z ∧ ∀ i, z ≠ .v i := by
  unfold cCall at h
  split at h
  · rename_i hi
    cases h
    unfold cIm at hi
    repeat' (split at hi)
    all_goals first
      | (cases hi; done)
      | (obtain ⟨y, _, rfl⟩ := Option.map_eq_some_iff.mp hi; exact ⟨trivial, fun _ e => nomatch e⟩)
  repeat' (split at h)
  all_goals first
    | (cases h; done)
    | (cases h; exact ⟨trivial, fun _ e => nomatch e⟩)
    | (obtain ⟨y, _, rfl⟩ := Option.map_eq_some_iff.mp h; exact ⟨trivial, fun _ e => nomatch e⟩)
theorem sub_pl {f : Expr → Option E} {a b : Expr} {z : E} (h : cSub f a b = some z) : plainE z ∧ ∀ i, z ≠ .v i := by
  unfold cSub at h
  repeat' (split at h)
  all_goals first
    | (cases h; done)
    | (cases h; exact ⟨trivial, fun _ e => nomatch e⟩)
    | (obtain ⟨y, _, rfl⟩ := Option.map_eq_some_iff.mp h; exact ⟨trivial, fun _ e => nomatch e⟩)
theorem lcd_ok (M : Mat X cc cal k) {f : Cf} (hf : Sd cal k f) {elt : Expr} {gens : List Comprehension} {scope : Scope} {z : E} (h : cLcd f cc elt gens scope = some z) : QE X (.ListComp elt gens scope pos) (ev cal z false) ∧ plainE z ∧ ∀ i, z ≠ .v i := by
  unfold cLcd at h
  split at h
  · rename_i hb
    have ok : BlkOk X.N X.env.scope scope (ownOf cc scope) := by rw [M.hN, M.sc]; exact blkOk_by hb
    split at h
    · split at h
      · split at h
        · rename_i j t i e h1 h2 h3 h4
          split at h
          · rename_i hn
            cases h
            have hn' : ∀ j ∈ namesT t, j ∈ (ownOf cc scope).map (·.2) := fun j hj => of_decide_eq_true (List.all_eq_true.mp hn j hj)
            exact ⟨Q_lcd M.calm M.nd (cVar_var M h1) ok (fun s H C cl fp => cTg_ok (M.blk s H scope C cl fp) h2 hn') (fun s H C cl fp => ifs_ok (fun e z hz => (hf _ _ (M.blk s H scope C cl fp) e z).2.1 hz) h3)
              (fun s H C cl fp => (hf _ _ (M.blk s H scope C cl fp) _ _).1 h4), trivial, fun _ e => nomatch e⟩
          · cases h
        · cases h
      · cases h
    · cases h
  · cases h
theorem lc_pl {f : Cf} {elt : Expr} {gens : List Comprehension} {scope : Scope} {z : E} (h : cLc f cc elt gens scope = some z) : plainE z ∧ ∀ i, z ≠ .v i := by
  unfold cLc at h
  repeat' (split at h)
  all_goals first
    | (cases h; done)
    | (cases h; exact ⟨trivial, fun _ e => nomatch e⟩)
theorem dc_pl {f : Cf} {key val : Expr} {gens : List Comprehension} {scope : Scope} {z : E} (h : cDc f cc key val gens scope = some z) : plainE z ∧ ∀ i, z ≠ .v i := by
  unfold cDc at h
  repeat' (split at h)
  all_goals first
    | (cases h; done)
    | (cases h; exact ⟨trivial, fun _ e => nomatch e⟩)
theorem ga_pl {f : Cf} {x : Str} {elt : Expr} {gens : List Comprehension} {scope : Scope} {z : E} (h : cGa f cc x elt gens scope = some z) : plainE z ∧ ∀ i, z ≠ .v i := by
  unfold cGa at h
  repeat' (split at h)
  all_goals first
    | (cases h; done)
    | (cases h; exact ⟨trivial, fun _ e => nomatch e⟩)
theorem mt_pl {f : Expr → Option E} {o e : Expr} {m : Str} {apos cpos : Pos} {z : E} (h : cMt f o m apos e cpos = some z) : plainE z ∧ ∀ i, z ≠ .v i := by
  unfold cMt at h
  repeat' (split at h)
  all_goals first
    | (cases h; done)
    | (cases h; exact ⟨trivial, fun _ e => nomatch e⟩)
theorem var_pl {x : Str} {z : E} (h : cVar cc x = some z) : plainE z := by
  unfold cVar at h
  repeat' (split at h)
  all_goals first
    | (cases h; done)
    | (obtain ⟨y, _, rfl⟩ := Option.map_eq_some_iff.mp h; exact trivial)
theorem ex_pl {f : Cf} {e : Expr} {z : E} (h : cEx f cc e = some z) : plainE z ∧ ∀ i, z ≠ .v i := by
  unfold cEx at h
  repeat' (split at h)
  all_goals first
    | (cases h; done)
    | (cases h; exact ⟨trivial, fun _ e => nomatch e⟩)
    | (obtain ⟨y, _, rfl⟩ := Option.map_eq_some_iff.mp h; exact ⟨trivial, fun _ e => nomatch e⟩)
theorem ex_ok (M : Mat X cc cal k) {f : Cf} (hf : ∀ e z, f cc false e = some z → QE X e (ev cal z false)) {e : Expr} {z : E} (h : cEx f cc e = some z) : QE X e (ev cal z false) ∧ ∀ whole, isTrue e X.env whole = (do let v ← whole; standAt e.pos; holding [v] (truthy v)) := by
  unfold cEx at h
  split at h
  · split at h
    · rename_i a b h1 h2
      cases h
      exact ⟨Q_dt1 (by have := M.room.un; omega) (hf _ _ h1) (hf _ _ h2), fun _ => rfl⟩
    · cases h
  · split at h
    · rename_i ks zs h1 h2
      split at h
      · rename_i hc
        cases h
        exact ⟨Q_dsk hf h1 h2 hc.1.1 hc.1.2 hc.2, fun _ => rfl⟩
      · cases h
    · cases h
  · split at h
    · rename_i ks z' h1 h2
      split at h
      · rename_i hc
        cases h
        obtain ⟨⟨rfl, hs⟩, hl⟩ := hc
        exact ⟨Q_tix h1 (hf _ _ h2) hs hl, fun _ => rfl⟩
      · cases h
    · cases h
  · split at h
    · rename_i hc
      obtain ⟨⟨rfl, _⟩, ⟨hs, hb⟩, hl⟩ := hc
      split at h
      · rename_i x y h1 h2
        cases h
        exact ⟨Q_tidx (hf _ _ h1) (hf _ _ h2) hs hb hl, fun _ => rfl⟩
      · cases h
    · cases h
  · split at h
    · rename_i hc
      obtain ⟨⟨rfl, hb⟩, _, hs⟩ := hc
      obtain ⟨b1, b2, _⟩ := blt_of M hb
      obtain ⟨y, hy, rfl⟩ := Option.map_eq_some_iff.mp h
      exact ⟨Q_tupX b1 b2 (hf _ _ hy) hs, fun _ => rfl⟩
    · split at h
      · split at h
        · rename_i hc
          obtain ⟨⟨rfl, hb⟩, _⟩ := hc
          obtain ⟨b1, b2, _⟩ := blt_of M hb
          split at h
          · rename_i j hj
            cases h
            exact ⟨Q_mind M.calm b1 b2 (cVar_var M hj), fun _ => rfl⟩
          · cases h
        · cases h
      · cases h
  · split at h
    · rename_i kvs z' h1 h2
      split at h
      · rename_i hc
        cases h
        obtain ⟨⟨hg, hn⟩, hb⟩ := hc
        obtain ⟨p, hp, hk⟩ := M.kd _ _ h1
        obtain ⟨n1, n2, n3⟩ := okName_of hn
        exact ⟨Q_kdx (isGl_of M hg) hp n2 hk (plain_ix hb) (hf _ _ h2), fun _ => rfl⟩
      · cases h
    · cases h
  · cases h
theorem cP_ok (M : Mat X cc cal k) {f : Cf} (hf : Sd cal k f) {e : Expr} {z : E} (h : cP f cc e = some z) : QE X e (ev cal z false) ∧ QT X e (ev cal z true) ∧ ∀ i, z = .v i → PE X e (tVar i) := by
  have he0 : ∀ e z, f cc false e = some z → QE X e (ev cal z false) := fun e z => (hf X cc M e z).1
  have both : ∀ {e : Expr} {z : E}, QE X e (ev cal z false) → plainE z → (∀ whole, isTrue e X.env whole = (do let v ← whole; standAt e.pos; holding [v] (truthy v))) → (∀ i, z = .v i → PE X e (tVar i)) → QE X e (ev cal z false) ∧ QT X e (ev cal z true) ∧ ∀ i, z = .v i → PE X e (tVar i) := fun {e z} h1 h2 h3 h4 =>
    ⟨h1, Q_tru h1 h3 (fun ρ => ev_tru z ρ (by cases z <;> first | exact h2.elim | trivial)), h4⟩
  unfold cP at h
  split at h
  · rename_i z' hz
    cases h
    obtain ⟨q1, q2⟩ := ex_ok M he0 hz
    exact both q1 (ex_pl hz).1 q2 fun i e => absurd e ((ex_pl hz).2 i)
  split at h
  · exact both (cVar_ok M h) (var_pl h) (fun _ => rfl) fun i e => by subst e; exact cVar_var M h
  · obtain ⟨d, hd, rfl⟩ := Option.map_eq_some_iff.mp h
    exact both (cCon_ok hd) trivial (fun _ => rfl) fun i e => nomatch e
  · split at h
    · rename_i o x y ho hx hy
      cases h
      have := cBo_eq ho
      subst this
      exact both (Q_bin (he0 _ _ hx) (he0 _ _ hy)) trivial (fun _ => rfl) fun i e => nomatch e
    · cases h
  · obtain ⟨y, hy, rfl⟩ := Option.map_eq_some_iff.mp h
    exact both (Q_neg (he0 _ _ hy)) trivial (fun _ => rfl) fun i e => nomatch e
  · obtain ⟨y, hy, rfl⟩ := Option.map_eq_some_iff.mp h
    exact both (Q_tup (list_ok he0 hy).1) trivial (fun _ => rfl) fun i e => nomatch e
  · obtain ⟨y, hy, rfl⟩ := Option.map_eq_some_iff.mp h
    exact both (Q_lst (list_ok he0 hy).1) trivial (fun _ => rfl) fun i e => nomatch e
  · cases h
    exact both Q_d0 trivial (fun _ => rfl) fun i e => nomatch e
  · exact both (ga_ok M hf h) (ga_pl h).1 (fun _ => rfl) fun i e => absurd e ((ga_pl h).2 i)
  · exact both (call_ok M he0 h) (call_pl h).1 (fun _ => rfl) fun i e => absurd e ((call_pl h).2 i)
  · exact both (mt_ok he0 h) (mt_pl h).1 (fun _ => rfl) fun i e => absurd e ((mt_pl h).2 i)
  · exact both (sub_ok M he0 h) (sub_pl h).1 (fun _ => rfl) fun i e => absurd e ((sub_pl h).2 i)
  · rename_i pos _
    split at h
    · rename_i w hw
      cases h
      exact both (lcd_ok M hf hw).1 (lcd_ok M (pos := pos) hf hw).2.1 (fun _ => rfl) fun i e => absurd e ((lcd_ok M (pos := pos) hf hw).2.2 i)
    · exact both (lc_ok M hf h) (lc_pl h).1 (fun _ => rfl) fun i e => absurd e ((lc_pl h).2 i)
  · exact both (dc_ok M hf h) (dc_pl h).1 (fun _ => rfl) fun i e => absurd e ((dc_pl h).2 i)
  · cases h
theorem cX1_ok {f : Cf} (hf : Sd cal k f) : Sd cal k (cX1 f) := by
  intro X cc M e z
  have he0 : ∀ e z, f cc false e = some z → QE X e (ev cal z false) := fun e z => (hf X cc M e z).1
  have ht0 : ∀ e z, f cc true e = some z → QT X e (ev cal z true) := fun e z => (hf X cc M e z).2.1
  unfold cX1
  split
  · refine ⟨fun h => ?_, fun h => ?_, fun i h => ?_⟩
    · obtain ⟨y, hy, rfl⟩ := Option.map_eq_some_iff.mp h
      exact Q_nt (he0 _ _ hy)
    · obtain ⟨y, hy, rfl⟩ := Option.map_eq_some_iff.mp h
      exact T_nt (ht0 _ _ hy)
    · obtain ⟨y, hy, e⟩ := Option.map_eq_some_iff.mp h
      cases e
  · refine ⟨fun h => ?_, fun h => ?_, fun i h => ?_⟩
    · split at h
      · exact bool_ok he0 h
      · cases h
    · split at h
      · exact PW.pt (boolT_ok ht0 h)
      · cases h
    · split at h
      · rename_i op _ a b r
        unfold cBool at h
        split at h
        · split at h <;> cases h
        · cases h
      · cases h
  · refine ⟨fun h => (cmp_ok M he0 h).1, fun h => (cmp_ok M he0 h).2, fun i h => ?_⟩
    unfold cCmp at h
    repeat' (split at h)
    all_goals cases h
  · refine ⟨fun h => ?_, fun h => ?_, fun i h => ?_⟩
    · simp only [Bool.false_eq_true, if_false] at h
      split at h
      · rename_i x y w hx hy hw
        cases h
        exact Q_ite (ht0 _ _ hx) (he0 _ _ hy) (he0 _ _ hw)
      · cases h
    · simp only [if_true] at h
      cases h
    · simp only [Bool.false_eq_true, if_false] at h
      split at h <;> cases h
  · refine ⟨fun h => ?_, fun h => ?_, fun i h => ?_⟩
    · rw [if_neg (fun z => nomatch z.1)] at h
      exact (cP_ok M hf h).1
    · split at h
      · split at h
        · rename_i j hj
          cases h
          exact T_dtr (cVar_var M hj)
        · cases h
      · exact (cP_ok M hf h).2.1
    · rw [if_neg (fun z => nomatch z.1)] at h
      exact (cP_ok M hf h).2.2 i rfl
  · exact ⟨fun h => (cP_ok M hf h).1, fun h => (cP_ok M hf h).2.1, fun i h => (cP_ok M hf h).2.2 i rfl⟩
theorem cX_ok : ∀ n : Nat, Sd cal k (cX n)
  | 0 => fun _ _ _ _ _ => ⟨fun h => (nomatch h), fun h => (nomatch h), fun _ h => (nomatch h)⟩
  | n + 1 => cX1_ok (cX_ok n)
end
end Den

set_option Elab.async false
set_option linter.all false
set_option maxRecDepth 100000
/-! DenP: more statements. -/
namespace Den
open PySem PySem.Spec PyProof.Rows L2 RZ

theorem Reps.mut {K : PySem.W.Frag} {H : Hp} : ∀ {us : List V} {xs : List D} {fs : List Addr} {m : Nat} {dm : D}, Reps K H true us xs fs → fs.Nodup → xs[m]? = some dm →
    ∃ v f, us[m]? = some v ∧ Rep K H true v dm f ∧ (∀ a ∈ f, a ∈ fs) ∧ f.Nodup ∧ ∀ (H4 : Hp) (d' : D) (g' : List Addr), (∀ a o, H a = some o → a ∉ f → KeptAs o (H4 a)) → Rep K H4 true v d' g' → g'.Nodup → (∀ a ∈ g', a ∈ f ∨ H a = none) →
      ∃ gs, Reps K H4 true us (xs.set m d') gs ∧ gs.Nodup ∧ ∀ a ∈ gs, a ∈ fs ∨ H a = none
  | _, _, _, 0, dm, .cons (v := v) (d := d) (f := f) (fs := fs) r rs, nd, e => by
    simp at e; subst e
    obtain ⟨n1, n2, n3⟩ := List.nodup_append.mp nd
    refine ⟨v, f, rfl, r, fun a m => List.mem_append_left _ m, n1, fun H4 d' g' ch r' nd' sub => ⟨g' ++ fs, .cons r' (rs.keep (fun a zs ea => ?_) (fun a o zs ea => ?_) fun a m o ea => ?_), ?_, fun a m => ?_⟩⟩
    · exact ch a _ ea fun m => (r.obj a m).1 zs ea
    · exact ch a _ ea fun m => (r.obj a m).2.1 o zs ea
    · exact ch a o ea fun m2 => n3 a m2 a m rfl
    · rw [List.nodup_append]
      refine ⟨nd', n2, fun a ha c hc z => ?_⟩
      subst z
      rcases sub a ha with w | w
      · exact n3 a w a hc rfl
      · exact rs.trk a hc w
    · rcases List.mem_append.mp m with z | z
      · exact (sub a z).imp (List.mem_append_left _) id
      · exact .inl (List.mem_append_right _ z)
  | _, _, _, m + 1, dm, .cons (f := f0) (fs := fs) r rs, nd, e => by
    obtain ⟨n1, n2, n3⟩ := List.nodup_append.mp nd
    obtain ⟨v, f, h1, h2, h3, h4, h5⟩ := rs.mut (m := m) n2 (by simpa using e)
    refine ⟨v, f, by simpa using h1, h2, fun a m => List.mem_append_right _ (h3 a m), h4, fun H4 d' g' ch r' nd' sub => ?_⟩
    obtain ⟨gs, q1, q2, q3⟩ := h5 H4 d' g' ch r' nd' sub
    refine ⟨f0 ++ gs, .cons (r.keep (fun a zs ea => ?_) (fun a o zs ea => ?_) fun a m o ea => ?_) q1, ?_, fun a m => ?_⟩
    · exact ch a _ ea fun m => (h2.obj a m).1 zs ea
    · exact ch a _ ea fun m => (h2.obj a m).2.1 o zs ea
    · exact ch a o ea fun m2 => n3 a m a (h3 a m2) rfl
    · rw [List.nodup_append]
      refine ⟨n1, q2, fun a ha c hc z => ?_⟩
      subst z
      rcases q3 a hc with w | w
      · exact n3 a ha a w rfl
      · exact r.trk a ha w
    · rcases List.mem_append.mp m with z | z
      · exact .inl (List.mem_append_left _ z)
      · exact (q3 a z).imp (List.mem_append_right _) id
theorem Reps.erase {K : PySem.W.Frag} {H : Hp} {b : Bool} : ∀ {us : List V} {xs : List D} {fs : List Addr} {m : Nat} {z : D}, Reps K H b us xs fs → xs[m]? = some z →
    ∃ v g gs, us[m]? = some v ∧ Rep K H b v z g ∧ Reps K H b (us.eraseIdx m) (xs.eraseIdx m) gs ∧ (∀ a ∈ g, a ∈ fs) ∧ (∀ a ∈ gs, a ∈ fs) ∧ (fs.Nodup → g.Nodup ∧ gs.Nodup ∧ ∀ a ∈ g, a ∉ gs)
  | _, _, _, 0, z, .cons (v := v) (f := f) (fs := fs) r rs, e => by
    simp at e; subst e
    exact ⟨v, f, fs, rfl, r, rs, fun a m => List.mem_append_left _ m, fun a m => List.mem_append_right _ m, fun nd => let ⟨n1, n2, n3⟩ := List.nodup_append.mp nd; ⟨n1, n2, fun a m m2 => n3 a m a m2 rfl⟩⟩
  | _, _, _, m + 1, z, .cons (f := f0) (fs := fs) r rs, e => by
    obtain ⟨v, g, gs, h1, h2, h3, h4, h5, h6⟩ := rs.erase (m := m) (by simpa using e)
    refine ⟨v, g, f0 ++ gs, by simpa using h1, h2, .cons r h3, fun a m => List.mem_append_right _ (h4 a m), fun a m => ?_, fun nd => ?_⟩
    · rcases List.mem_append.mp m with w | w
      · exact List.mem_append_left _ w
      · exact List.mem_append_right _ (h5 a w)
    · obtain ⟨n1, n2, n3⟩ := List.nodup_append.mp nd
      obtain ⟨q1, q2, q3⟩ := h6 n2
      refine ⟨q1, ?_, fun a m m2 => ?_⟩
      · rw [List.nodup_append]
        exact ⟨n1, q2, fun a ha c hc e => n3 a ha c (h5 c hc) e⟩
      · rcases List.mem_append.mp m2 with w | w
        · exact n3 a w a (h4 a m) rfl
        · exact q3 a m w
section
variable {X : Cx} {cc : CC} {cal : Nat → List (Bool × D) → Option (Bool × D)} {fu : Nat} {e k : Expr} {ea ek ek2 : E} {pos px cpos apos ps ps2 : Pos} {x : Str} {i : Nat}
theorem S_aug (hN : X.N.Nodup) (hi : X.N[i]? = some x) (hx : L2.Loc X.env.scope x) (hf : X.fn x = true ∨ X.env.scope.names.lookup x = some .local) (he : QE X e (ev cal ea false)) {op : Operator} {o : Bo} (ho : (op = .Add ∧ o = .add) ∨ (op = .Sub ∧ o = .sub)) :
    QS X (.AugAssign (.Name x px) op e pos) (exS cal fu (.aug i o ea)) := by
  have key : ∀ {op : Operator} {o : Bo} {g : Int → Int → Int}, PIp X op (ipI g) → (∀ a b : Int, binD o (.int a) (.int b) = some (true, .int (g a b))) → QS X (.AugAssign (.Name x px) op e pos) (exS cal fu (.aug i o ea)) := fun {op o g} hp hb => by
    refine ps_imp (ps_aug hN hi hx he hp hf) fun E σ H ⟨ρ, φ, fl, ρ', R, ok, e, q⟩ => ?_
    simp only [exS, getD?] at e
    split at e
    · rename_i b0 x0 hg
      split at hg
      · rename_i pp hp
        cases hg
        split at e
        · cases e
        rename_i yb y e1
        split at e
        · rename_i a b
          rw [hb] at e
          simp only [Option.map_some, Option.some.injEq, Prod.mk.injEq] at e
          obtain ⟨rfl, rfl⟩ := e
          obtain ⟨v, f, h1, h2, h3⟩ := R.at_ _ _ _ hp
          obtain ⟨rfl, rfl⟩ := h3.i
          refine ⟨_, h1, ρ, φ, yb, _, R, e1, fun w H1 gg G => ⟨a, b, rfl, G.rep.i.1, ?_⟩⟩
          have li : i < ρ.length := (List.getElem?_eq_some_iff.mp hp).1
          obtain ⟨φ', S⟩ := SetR.name (i := i) (ρ' := ρ.set i (some (true, .int (g a b)))) (b := true) (d := .int (g a b)) (g := []) (R.same G.same) (.int (g a b)) (by show (if i < ρ.length then _ else none) = _; rw [if_pos li]; rfl) (vs := [i]) (by simp)
          exact q H1 _ φ' (aft_set R G.same S ok (fun a h => h) (fun _ => ⟨List.nodup_nil, fun a m => nomatch m⟩) (fun a m => nomatch m) fun z => nomatch z)
        · cases e
      · cases hg
    · cases e
  rcases ho with ⟨rfl, rfl⟩ | ⟨rfl, rfl⟩
  · exact key ip_add fun a b => rfl
  · exact key ip_sub fun a b => rfl
theorem asg_sub {o k : Expr} {p : Pos} {env : Env} (h : notSlice k = true) : ∀ v, assign (.Subscript o k p) env v = (do
      let ov ← holding [v] (eval o env)
      let iv ← holding [v, ov] (eval k env)
      standAt p
      holding [v, ov, iv] (setItem ov iv v)
      release [v, ov, iv] []) := by
  cases k <;> first | (cases h; done) | exact fun _ => rfl
/-- xs[k][k'] = e -/
theorem S_set2 {k2 : Expr} (hx : PE X (.Name x px) (tVar i)) (hk : QE X k (ev cal ek false)) (hk2 : QE X k2 (ev cal ek2 false)) (he : QE X e (ev cal ea false)) (hp : PlainIx k) (hns : notSlice k2 = true) :
    QS X (.Assign [.Subscript (.Subscript (.Name x px) k ps2) k2 ps] e pos) (exS cal fu (.set2 i ek ek2 ea)) := by
  refine ps_imp (ps_asg he (pg_sub (pe_ix ix_list hx hk hp) hk2 set_list (asg_sub hns)) sole_sub swap_sub rfl) fun E σ H ⟨ρ, φ, fl, ρ', R, ok, e, q⟩ => ?_
  simp only [exS] at e
  split at e
  · rename_i d e1
    split at e
    · rename_i b1 j e2
      split at e
      · rename_i b2 j2 e3
        split at e
        · rename_i xs ho
          split at e
          · cases e
          rename_i m hm
          split at e
          · rename_i ys hys
            split at e
            · cases e
            rename_i m2 hm2
            simp only [Option.some.injEq, Prod.mk.injEq] at e
            obtain ⟨rfl, rfl⟩ := e
            obtain ⟨l, us, fs, h1, h2, h3, h4, h5, h6⟩ := own_list R ok ho
            refine ⟨ρ, φ, true, d, R, e1, fun v H1 g G => ⟨_, h1, ρ, φ, b1, _, R.same G.same, e2, fun w H2 gk Gk => ?_⟩⟩
            obtain ⟨n1, n2⟩ := G.fr rfl
            have s2 := G.same.trans Gk.same
            obtain ⟨row, gr, r1, r2, r4, r3, mu⟩ := h4.mut (List.nodup_cons.mp h5).2 hys
            obtain ⟨lr, ur, fr, rfl, ha, rr, rfl⟩ := r2.l
            have hat : atI us j = some (.ref lr) := by unfold atI; rw [h4.length, hm]; exact r1
            refine ⟨l, us, j, .ref lr, rfl, Gk.rep.i.1, .inl (.inl (s2 l _ h3)), hat, ρ, φ, b2, _, R.same s2, e3, fun w3 H3 gk2 Gk2 => ?_⟩
            have s3 := s2.trans Gk2.same
            have ha' : H lr = some (.lst ur) := ha
            have hlr : lr ∈ fs := r4 lr List.mem_cons_self
            have hne : lr ≠ l := fun z => (List.nodup_cons.mp h5).1 (by rw [← z]; exact hlr)
            refine ⟨lr, ur, j2, m2, rfl, Gk2.rep.i.1, s3 lr _ ha', by rw [rr.length]; exact hm2, ?_⟩
            have g3 := G.rep.same (Gk.same.trans Gk2.same)
            obtain ⟨gs, q1, q2, q3⟩ := (rr.same s3).set (j := m2) g3
            have e3' := s3 lr _ ha'
            have ndr := List.nodup_cons.mp r3
            have gs_nd : gs.Nodup := q3 ndr.2 n1 fun a m m0 => rr.trk a m0 (n2 a m)
            have lrn : lr ∉ gs := fun m => by
              rcases q2 lr m with z | z
              · exact ndr.1 z
              · rw [n2 lr z] at ha'; cases ha'
            have rep4 : Rep X.K (upd H3 lr (.lst (ur.set m2 v))) true (.ref lr) (.list (ys.set m2 d)) (lr :: gs) := by
              refine .lst (b := true) upd_same (q1.keep (fun a zs ea => ?_) (fun a o zs ea => ?_) fun a m o ea => ?_)
              · rw [upd_ne (fun z => by rw [z, e3'] at ea; cases ea)]; exact ea
              · rw [upd_ne (fun z => by rw [z, e3'] at ea; cases ea)]; exact ea
              · rw [upd_ne (fun z => lrn (by rw [← z]; exact m))]; exact .of ea
            have ch : ∀ a o, H a = some o → a ∉ lr :: fr → KeptAs o (upd H3 lr (.lst (ur.set m2 v)) a) := fun a o ea n => by
              rw [upd_ne (fun z => n (by rw [z]; exact List.mem_cons_self))]; exact s3 a o ea
            obtain ⟨gs4, t1, t2, t3⟩ := mu _ _ _ ch rep4 (List.nodup_cons.mpr ⟨lrn, gs_nd⟩) fun a m => by
              rcases List.mem_cons.mp m with z | z
              · exact .inl (by rw [z]; exact List.mem_cons_self)
              · exact (q2 a z).imp (List.mem_cons_of_mem _) fun w => n2 a w
            have ln : l ∉ gs4 := fun m => by
              rcases t3 l m with z | z
              · exact (List.nodup_cons.mp h5).1 z
              · rw [z] at h3; cases h3
            refine q _ σ _ (aft_mut R ok h6 h2 h1 (.lst (b := true) h3 h4) (fun a o ea n => ch a o ea fun m => n (List.mem_cons_of_mem _ (r4 a m))) (fun a hh => ?_) (.lst (b := true) (by show upd H3 lr _ l = _; rw [upd_ne (Ne.symm hne)]; exact s3 l _ h3) t1) (List.nodup_cons.mpr ⟨ln, t2⟩) fun a m => ?_)
            · by_cases hl : a = lr
              · subst hl; rw [upd_same]; exact fun z => nomatch z
              · rw [upd_ne hl]; exact fun z => hh (s3.free z)
            · rcases List.mem_cons.mp m with z | z
              · exact .inl (by rw [z]; exact List.mem_cons_self)
              · exact (t3 a z).imp (List.mem_cons_of_mem _) id
          · cases e
        · cases e
      · cases e
    · cases e
  · cases e
/-- x = xs.pop(), xs.pop(k): what stands behind it -/
theorem pop_aft {H H1 : Hp} {σ : L2.St} {ρ ρ2 : Ev} {φ : List (List Addr)} {xs : List D} {m t : Nat} {z : D} (R : EnvR X.K H σ ρ φ) (ok : Okk ρ φ) (ho : ownD ρ i = some (.list xs)) (hz : xs[m]? = some z) (s : Same H H1) (est : setT (.n t) true z (ρ.set i (some (true, .list (xs.eraseIdx m)))) = some ρ2) :
    ∃ l us v, σ[i]? = some (some (.ref l)) ∧ H l = some (.lst us) ∧ us.length = xs.length ∧ us[m]? = some v ∧ ∃ φ2, Aft X.K H ρ φ (upd H1 l (.lst (us.eraseIdx m))) (σ.set t (some v)) ρ2 φ2 := by
  obtain ⟨l, us, fs, h1, h2, h3, h4, h5, h6⟩ := own_list R ok ho
  obtain ⟨v, g, gs, r1, r2, r3, r4, r5, r6⟩ := (h4.same s).erase hz
  obtain ⟨n1, n2, n3⟩ := r6 (List.nodup_cons.mp h5).2
  have A := aft_lst R ok h1 h2 h3 h4 h5 h6 s r3 n2 fun a m => .inl (r5 a m)
  have li : i < φ.length := (List.getElem?_eq_some_iff.mp h2).1
  have ln : l ∉ g := fun w => (List.nodup_cons.mp h5).1 (r4 l w)
  have rv : Rep X.K (upd H1 l (.lst (us.eraseIdx m))) true v z g := by
    have e1 := s l _ h3
    refine r2.keep (fun a zs ea => ?_) (fun a o zs ea => ?_) fun a w o ea => ?_
    · rw [upd_ne (fun z => by rw [z, e1] at ea; cases ea)]; exact ea
    · rw [upd_ne (fun z => by rw [z, e1] at ea; cases ea)]; exact ea
    · rw [upd_ne (fun z => ln (by rw [← z]; exact w))]; exact .of ea
  obtain ⟨φ2, S⟩ := SetR.name A.env rv est (vs := [t]) (by simp)
  have og : ∀ a ∈ g, Own ρ φ a := fun a w => ⟨i, _, _, h6, h2, List.mem_cons_of_mem _ (r4 a w)⟩
  refine ⟨l, us, v, h1, h3, h4.length, r1, φ2, S.env, S.okk A.okk (fun _ => ⟨n1, fun a w f hf mf => ?_⟩) (fun z => nomatch z), A.chg, A.trk, fun a h => ?_, fun f hf a w => ?_⟩
  · obtain ⟨j, hj⟩ := List.getElem?_of_mem hf
    by_cases hij : i = j
    · subst hij
      rw [List.getElem?_set_self li] at hj
      cases hj
      rcases List.mem_cons.mp mf with y | y
      · exact ln (by rw [← y]; exact w)
      · exact n3 a w y
    · rw [List.getElem?_set_ne hij] at hj
      exact (ok i _ _ h6 h2).2 j f (fun y => hij y.symm) hj a (List.mem_cons_of_mem _ (r4 a w)) mf
  · rcases S.own a h with y | ⟨_, y⟩
    · exact A.own a y
    · exact .inl (og a y)
  · rcases S.all f hf a w with ⟨f0, y1, y2⟩ | y
    · exact A.all f0 y1 a y2
    · exact .inl ⟨_, List.mem_of_getElem? h2, List.mem_cons_of_mem _ (r4 a y)⟩
theorem S_pop {t : Nat} {y : Str} {py : Pos} (hN : X.N.Nodup) (hi : X.N[t]? = some y) (hy : L2.Loc X.env.scope y) (hf : X.fn y = true ∨ X.env.scope.names.lookup y = some .local) (hx : PE X (.Name x px) (tVar i)) (hl : (apos.endLine == cpos.line) = true) :
    QS X (.Assign [.Name y py] (.Call (.Attribute (.Name x px) "pop" apos) [] [] cpos) pos) (exS cal fu (.pop (.n t) i)) := by
  refine ps_imp (ps_set hN hi hy (pe_bm0 PySem.F.plainAttrs_list PySem.F.slot_list_pop PySem.F.type_list_pop mt_pop hx (base_of rfl) hl) rfl hf) fun E σ H ⟨ρ, φ, fl, ρ', R, ok, e, q⟩ => ?_
  simp only [exS] at e
  split at e
  · rename_i xs ho
    split at e
    · cases e
    rename_i z hz
    obtain ⟨ρ2, est, e3⟩ := Option.map_eq_some_iff.mp e
    simp only [Prod.mk.injEq] at e3
    obtain ⟨rfl, rfl⟩ := e3
    obtain ⟨l, us, v, h1, h3, hlen, hv, φ2, A⟩ := pop_aft R ok ho hz (Same.refl H) est
    refine ⟨_, h1, tyV_lst h3, l, us, v, rfl, rfl, h3, by rw [hlen]; exact hv, ?_⟩
    have : us.dropLast = us.eraseIdx (xs.length - 1) := by rw [← hlen, List.eraseIdx_length_sub_one]
    show E.nx (σ.set t (some v)) (upd H l (.lst us.dropLast))
    rw [this]
    exact q _ _ φ2 A
  · cases e
theorem S_popAt {t : Nat} {y : Str} {py : Pos} (hN : X.N.Nodup) (hi : X.N[t]? = some y) (hy : L2.Loc X.env.scope y) (hf : X.fn y = true ∨ X.env.scope.names.lookup y = some .local) (hx : PE X (.Name x px) (tVar i)) (hk : QE X k (ev cal ek false)) (hs : noStar k = true) (hl : (apos.endLine == cpos.line) = true) :
    QS X (.Assign [.Name y py] (.Call (.Attribute (.Name x px) "pop" apos) [k] [] cpos) pos) (exS cal fu (.popAt (.n t) i ek)) := by
  refine ps_imp (ps_set hN hi hy (pe_bm PySem.F.plainAttrs_list PySem.F.slot_list_pop PySem.F.type_list_pop mt_popAt hx (pa_cons hk pa_nil (star_of hs)) (base_of rfl) (few_of hs) hl (star_of hs) rfl) rfl hf) fun E σ H ⟨ρ, φ, fl, ρ', R, ok, e, q⟩ => ?_
  simp only [exS] at e
  split at e
  · rename_i xs ho
    split at e
    · rename_i b j ek0
      split at e
      · rename_i hlim
        split at e
        · cases e
        rename_i m hm
        split at e
        · cases e
        rename_i z hz
        obtain ⟨ρ2, est, e3⟩ := Option.map_eq_some_iff.mp e
        simp only [Prod.mk.injEq] at e3
        obtain ⟨rfl, rfl⟩ := e3
        obtain ⟨l, us, fs, g1, g2, g3, g4, g5, g6⟩ := own_list R ok ho
        refine ⟨_, g1, tyV_lst g3, ρ, φ, b, _, R, ek0, fun w H1 gk Gk => ?_⟩
        obtain ⟨l', us', v, h1, h3, hlen, hv, φ2, A⟩ := pop_aft R ok ho hz Gk.same est
        rw [g1] at h1
        cases h1
        rw [g3] at h3
        cases h3
        obtain ⟨x1, x2, x3, x4⟩ := ixN_seq hm
        have hb : xs.length ≤ 16777216 := hlim
        exact ⟨l, us, j, m, v, rfl, by rw [Gk.rep.i.1], Gk.same l _ g3, by omega, by omega, by rw [hlen]; exact x1, hv, q _ _ φ2 A⟩
      · cases e
    · cases e
  · cases e
end
end Den

set_option Elab.async false
set_option linter.all false
set_option maxRecDepth 100000
/-! DenPa: ys.append(xs.pop(k)). -/
namespace Den
open PySem PySem.Spec PyProof.Rows L2 RZ
section
variable {X : Cx} {cal : Nat → List (Bool × D) → Option (Bool × D)} {fu : Nat} {t i : Nat} {x y : Str} {px py pos apos cpos apos2 cpos2 : Pos} {k : Expr} {ek : E}
theorem S_popA (hy : PE X (.Name y py) (tVar t)) (hx : PE X (.Name x px) (tVar i)) (hk : QE X k (ev cal ek false)) (hs : noStar k = true) (hl : (apos.endLine == cpos.line) = true) (hl2 : (apos2.endLine == cpos2.line) = true) :
    QS X (.Expr (.Call (.Attribute (.Name y py) "append" apos) [.Call (.Attribute (.Name x px) "pop" apos2) [k] [] cpos2] [] cpos) pos) (exS cal fu (.popA t i ek)) := by
  have hp := pe_bm PySem.F.plainAttrs_list PySem.F.slot_list_pop PySem.F.type_list_pop mt_popAt hx (pa_cons hk pa_nil (star_of hs)) (base_of rfl) (few_of hs) hl2 (star_of hs) rfl
  have hs2 : noStar (.Call (.Attribute (.Name x px) "pop" apos2) [k] [] cpos2) = true := rfl
  refine ps_imp (ps_expr (pe_bm PySem.F.plainAttrs_list PySem.F.slot_list_append PySem.F.type_list_append mt_append hy (pa_cons hp pa_nil (star_of hs2)) (base_of rfl) (few_of hs2) hl (star_of hs2) rfl)) fun E σ H ⟨ρ, φ, fl, ρ', R, ok, e, q⟩ => ?_
  simp only [exS] at e
  split at e
  · rename_i ts hot
    split at e
    · rename_i xs ho
      split at e
      · rename_i b j ek0
        split at e
        · rename_i hc
          obtain ⟨⟨hlim, hlt⟩, hne⟩ := hc
          split at e
          · cases e
          rename_i m hm
          split at e
          · cases e
          rename_i z hz
          split at e
          · rename_i hfz
            simp only [Option.some.injEq, Prod.mk.injEq] at e
            obtain ⟨rfl, rfl⟩ := e
            obtain ⟨l0, us0, fs0, t1, t2, t3, t4, t5, t6⟩ := own_list R ok hot
            obtain ⟨l, us, fs, g1, g2, g3, g4, g5, g6⟩ := own_list R ok ho
            refine ⟨_, t1, tyV_lst t3, _, g1, tyV_lst g3, ρ, φ, b, _, R, ek0, fun w H1 gk Gk => ?_⟩
            obtain ⟨v, g, gs, r1, r2, r3, r4, r5, r6⟩ := (g4.same Gk.same).erase hz
            obtain ⟨n1, n2, n3⟩ := r6 (List.nodup_cons.mp g5).2
            have A1 := aft_lst R ok g1 g2 g3 g4 g5 g6 Gk.same r3 n2 fun a m => .inl (r5 a m)
            have hot2 : ownD (ρ.set i (some (true, .list (xs.eraseIdx m)))) t = some (.list ts) := by
              have := ownD_get hot
              unfold ownD getD?
              rw [List.getElem?_set_ne (fun z => hne z.symm), this]
            obtain ⟨l2, us2, fs2, u1, u2, u3, u4, u5, u6⟩ := own_list A1.env A1.okk hot2
            rw [t1] at u1
            cases u1
            have hv0 := (r2.fz hfz).2 true
            have hv1 : Rep X.K (upd H1 l (.lst (us.eraseIdx m))) true v z [] := by
              have e1 := Gk.same l _ g3
              refine hv0.keep (fun a zs ea => ?_) (fun a o zs ea => ?_) fun a w o ea => nomatch w
              · rw [upd_ne (fun z => by rw [z, e1] at ea; cases ea)]; exact ea
              · rw [upd_ne (fun z => by rw [z, e1] at ea; cases ea)]; exact ea
            have A2 := aft_lst A1.env A1.okk t1 u2 u3 u4 u5 u6 (Same.refl _) (u4.append (Reps.one hv1)) (by rw [List.append_nil]; exact (List.nodup_cons.mp u5).2) fun a m => by
              rw [List.append_nil] at m
              exact .inl m
            obtain ⟨x1, x2, x3, x4⟩ := ixN_seq hm
            have hb : xs.length ≤ 16777216 := hlim
            have hul : us.length = xs.length := g4.length
            refine ⟨l, us, j, m, v, rfl, by rw [Gk.rep.i.1], Gk.same l _ g3, by omega, by omega, by rw [hul]; exact x1, r1, ?_⟩
            refine ⟨l0, us2, v, rfl, rfl, u3, by rw [u4.length]; exact hlt, ?_⟩
            exact q _ _ _ (A1.trans A2)
          · cases e
        · cases e
      · cases e
    · cases e
  · cases e
end
end Den

set_option Elab.async false
set_option linter.all false
set_option maxRecDepth 100000
/-! DenQ: lists that are made by popping; pairs stored; lists stored as they are made. -/
namespace Den
open PySem PySem.Spec PyProof.Rows L2 RZ

theorem aft_store {K : PySem.W.Frag} {H H1 : Hp} {σ1 : L2.St} {ρ ρ1 ρ2 : Ev} {φ φ1 : List (List Addr)} {t : Nat} {v : V} {d : D} {g : List Addr} (A : Aft K H ρ φ H1 σ1 ρ1 φ1) (r : Rep K H1 true v d g) (nd : g.Nodup) (fr : ∀ a ∈ g, H a = none) (dj : ∀ a ∈ g, ∀ f ∈ φ1, a ∉ f) (e : setT (.n t) true d ρ1 = some ρ2) :
    ∃ φ2, Aft K H ρ φ H1 (σ1.set t (some v)) ρ2 φ2 := by
  obtain ⟨φ2, S⟩ := SetR.name A.env r e (vs := [t]) (by simp)
  refine ⟨φ2, S.env, S.okk A.okk (fun _ => ⟨nd, dj⟩) (fun z => nomatch z), A.chg, A.trk, fun a h => ?_, fun f hf a w => ?_⟩
  · rcases S.own a h with y | ⟨_, y⟩
    · exact A.own a y
    · exact .inr (fr a y)
  · rcases S.all f hf a w with ⟨f0, y1, y2⟩ | y
    · exact A.all f0 y1 a y2
    · exact .inr (fr a y)
theorem wipe_at {σ σ' : L2.St} {vs : List Nat} {i : Nat} (h : wipe σ' vs = wipe σ vs) (hi : i ∉ vs) : σ'[i]? = σ[i]? := by
  have := congrArg (fun z : L2.St => z[i]?) h
  simp only [wipe_get] at this
  simpa [hi] using this
section
variable {X : Cx} {cc : CC} {cal : Nat → List (Bool × D) → Option (Bool × D)} {fu : Nat} {i : Nat} {ek : E}
/-- what stands behind the pops: the new list, the old one's rest -/
def PopS (K : PySem.W.Frag) (H1 : Hp) (l Da : Addr) (done cur : List D) (H' : Hp) : Prop := ∃ us acc, H' l = some (.lst us) ∧ Reps K H' true us cur [] ∧ H' Da = some (.lst acc) ∧ Reps K H' true acc done [] ∧ (∀ a o, H1 a = some o → a ≠ l → KeptAs o (H' a))
theorem fz_keep {K : PySem.W.Frag} {H H' : Hp} {us : List V} {xs : List D} (r : Reps K H true us xs []) (ht : ∀ a xs, H a = some (.tup xs) → H' a = some (.tup xs)) (hz : ∀ a o xs, H a = some (.frz o (lt xs)) → H' a = some (.frz o (lt xs))) : Reps K H' true us xs [] := r.keep ht hz fun a m => nomatch m
theorem fzs_erase {xs : List D} : ∀ {m : Nat}, fzs xs = true → fzs (xs.eraseIdx m) = true := by
  induction xs with
  | nil => intro m h; simpa using h
  | cons x r ih =>
    intro m h
    simp only [fzs, Bool.and_eq_true] at h
    cases m with
    | zero => exact h.2
    | succ m => simp only [List.eraseIdx_cons_succ, fzs, h.1, ih h.2]; rfl
theorem pop_read {tg : T} {src : I} {own : List Nat} {σ : L2.St} {H : Hp} {Q : VK} {ρ : Ev} {φ : List (List Addr)} {ds xs zs xs' : List D} (R : EnvR X.K H σ ρ φ) (ok : Okk ρ φ) (e1 : evi cal src ρ = some (true, ds)) (ho : ownD ρ i = some (.list xs))
    (hfd : fzs ds = true) (hfx : fzs xs = true) (hld : ds.length ≤ lim) (hlx : xs.length ≤ lim) (hio : i ∉ own)
    (ep : popL i (fun d ρ => setT tg false d ρ) (fun ρ => ev cal ek false ρ) (fun ρ => wipeE ρ own) ρ ds xs = some (zs, xs'))
    (q : ∀ Da H' φ', Aft X.K H ρ φ H' σ (ρ.set i (some (true, .list xs'))) φ' → H Da = none → (∀ f ∈ φ', Da ∉ f) → (∃ acc, H' Da = some (.lst acc) ∧ Reps X.K H' true acc zs []) → Q (.ref Da) H') :
    tLc (tI X.K (evi cal src)) (tG X.K own tg) (tT X.K (evt cal .no)) (tBM X.K "list" rPopAt (tVar i) (tA X.K (evs cal (.cons ek .nil)))) own σ H Q := by
  obtain ⟨l, us0, fs, h1, h2, h3, h4, h5, h6⟩ := own_list R ok ho
  obtain ⟨rfl, h4'⟩ := h4.fz hfx
  have h4 := h4' true
  refine ⟨ρ, φ, true, ds, R, e1, fun J H1 gw s1 wk fr al tr Da hD => ?_⟩
  have R1 := R.same s1
  have l1 := s1 l _ h3
  have lD : Da ≠ l := fun z => by rw [z, l1] at hD; cases hD
  have lg : l ∉ gw := fun m => by rw [fr rfl l m] at h3; cases h3
  -- the environment at any turn
  have envA : ∀ {done cur : List D} {H' : Hp}, PopS X.K H1 l Da done cur H' → Aft X.K H1 ρ φ H' σ (ρ.set i (some (true, .list cur))) (φ.set i [l]) := fun {done cur H'} ⟨us, acc, a1, a2, a3, a4, a5⟩ => by
    refine aft_mut R1 ok h6 h2 h1 (.lst (b := true) l1 (h4.same s1)) (fun a o e n => a5 a o e fun z => n (by rw [z]; exact List.mem_cons_self)) (fun a h => ?_) (.lst (b := true) a1 a2) (by simp) fun a m => .inl m
    by_cases hl : a = l
    · subst hl; rw [a1]; exact fun z => nomatch z
    · cases hh : H1 a with
      | none => exact absurd hh h
      | some o => exact (a5 a o hh hl).ne
  have sd : ∀ {done cur : List D} {H' : Hp}, PopS X.K H1 l Da done cur H' → Stand gw H1 H' := fun {done cur H'} ⟨us, acc, a1, a2, a3, a4, a5⟩ =>
    ⟨fun a zs e => a5 a _ e (fun z => by rw [z, l1] at e; cases e), fun a o zs e => a5 a _ e (fun z => by rw [z, l1] at e; cases e), fun a m o e => a5 a o e fun z => lg (by rw [← z]; exact m), fun P ⟨ps, e, t⟩ => let ⟨qs, e2, t2⟩ := a5 P _ e fun z => (by rw [z, l1] at e; cases e); ⟨qs, e2, t2 t⟩⟩
  have start : PopS X.K H1 l Da [] xs (upd H1 Da (.lst [])) := by
    refine ⟨us0, [], by rw [upd_ne (Ne.symm lD)]; exact l1, (h4.same s1).same (same_new hD), upd_same, .nil, fun a o e _ => same_new hD a o e⟩
  refine ⟨fun n m H' => m = ds.length - n ∧ n ≤ ds.length ∧ ∃ done cur rest, done ++ rest = zs ∧ done.length ≤ n ∧ cur.length ≤ xs.length ∧ fzs cur = true ∧ popL i (fun d ρ => setT tg false d ρ) (fun ρ => ev cal ek false ρ) (fun ρ => wipeE ρ own) ρ (ds.drop n) cur = some (rest, xs') ∧ PopS X.K H1 l Da done cur H',
    ⟨ds.length, by simp, Nat.zero_le _, [], xs, zs, rfl, Nat.le_refl _, Nat.le_refl _, hfx, ep, start⟩, ?_⟩
  rintro n m H' ⟨rfl, hn, done, cur, rest, hd, hdl, hcl, hcf, er, P⟩
  obtain ⟨wst, wgo⟩ := wk n H' (sd P)
  rcases Nat.lt_or_ge n ds.length with hlt | hge
  · have hx := List.getElem?_eq_getElem hlt
    obtain ⟨go, yl⟩ := wgo _ hx
    refine .inr ⟨go, fun H' => ∃ done cur rest, done ++ rest = zs ∧ done.length ≤ n + 1 ∧ cur.length ≤ xs.length ∧ fzs cur = true ∧ popL i (fun d ρ => setT tg false d ρ) (fun ρ => ev cal ek false ρ) (fun ρ => wipeE ρ own) ρ (ds.drop (n + 1)) cur = some (rest, xs') ∧ PopS X.K H1 l Da done cur H', fun H'' p => ⟨ds.length - (n + 1), by omega, rfl, hlt, p⟩, fun x H2 y => ?_⟩
    obtain ⟨g', s2, r2, hg'⟩ := yl x H2 y
    have r2' := (r2.fz (fzs_get hfd hx)).2 false
    rw [drop_get hx] at er
    simp only [popL] at er
    split at er
    · cases er
    rename_i ρ' est
    have A := envA P
    refine ⟨wipeE (ρ.set i (some (true, .list cur))) own, φ.set i [l], false, _, [], ρ', (A.env.same s2).wipe own, r2', est, fun σ3 φ3 S => ⟨by rw [S.out]; exact wipe_wipe own σ, ρ', φ3, true, true, S.env, rfl, fun H3 s3 => ?_⟩⟩
    show ite (true = true) _ _
    rw [if_pos rfl]
    split at er
    · rename_i b j ejk
      split at er
      · cases er
      rename_i mm hm
      split at er
      · cases er
      rename_i z hz
      obtain ⟨p, hp, ep2⟩ := Option.map_eq_some_iff.mp er
      obtain ⟨rest', xs2⟩ := p
      simp only [Prod.mk.injEq] at ep2
      obtain ⟨rfl, rfl⟩ := ep2
      have sl : σ3[i]? = some (some (.ref l)) := by
        rw [wipe_at (S.out.trans (wipe_wipe own σ)) hio]; exact h1
      obtain ⟨us, acc, a1, a2, a3, a4, a5⟩ := P
      have s23 := s2.trans s3
      refine ⟨_, sl, tyV_lst (s23 l _ a1), ρ', φ3, [(b, .int j)], S.env.same s3, by simp only [evs, ejk], fun vs H4 gs G => ?_⟩
      obtain ⟨v1, g1, rfl, rfl, rv⟩ := G.rep.n1
      obtain ⟨rfl, _⟩ := rv.i
      have s4 := s23.trans G.same
      obtain ⟨w, g, gs2, w1, w2, w3, w4, w5, w6⟩ := a2.erase hz
      have gs0 : gs2 = [] := List.eq_nil_iff_forall_not_mem.mpr fun a m => nomatch (w5 a m)
      have g0 : g = [] := List.eq_nil_iff_forall_not_mem.mpr fun a m => nomatch (w4 a m)
      subst gs0 g0
      obtain ⟨x1, x2, x3, x4⟩ := ixN_seq hm
      have hb : xs.length ≤ 16777216 := hlx
      have hb2 : ds.length ≤ 16777216 := hld
      have e4 := s4 l _ a1
      have d4 := s4 Da _ a3
      refine ⟨l, us, j, mm, w, rfl, rfl, e4, by omega, by omega, by rw [a2.length]; exact x1, w1, acc, by rw [upd_ne lD]; exact d4, by rw [a4.length, sizeLine_eq]; omega, done ++ [z], cur.eraseIdx mm, rest', by rw [← hd]; simp, by simp; omega, ?_, fzs_erase hcf, hp, ?_⟩
      · have := List.length_eraseIdx_le cur mm; omega
      · have up : ∀ (a : Addr) (o : HO), H4 a = some o → a ≠ l → a ≠ Da → upd (upd H4 l (.lst (us.eraseIdx mm))) Da (.lst (acc ++ [w])) a = some o := fun a o e n1 n2 => by
          rw [upd_ne n2, upd_ne n1]; exact e
        have kt : ∀ a zs, H4 a = some (.tup zs) → upd (upd H4 l (.lst (us.eraseIdx mm))) Da (.lst (acc ++ [w])) a = some (.tup zs) := fun a zs e => up a _ e (fun z => by rw [z, e4] at e; cases e) fun z => by rw [z, d4] at e; cases e
        have kz : ∀ a o zs, H4 a = some (.frz o (lt zs)) → upd (upd H4 l (.lst (us.eraseIdx mm))) Da (.lst (acc ++ [w])) a = some (.frz o (lt zs)) := fun a o zs e => up a _ e (fun z => by rw [z, e4] at e; cases e) fun z => by rw [z, d4] at e; cases e
        refine ⟨us.eraseIdx mm, acc ++ [w], by rw [upd_ne (Ne.symm lD), upd_same], fz_keep (w3.same s4) kt kz, upd_same, ?_, fun a o e n1 => ?_⟩
        · have := (a4.same s4).append (Reps.one (w2.same s4))
          exact fz_keep this kt kz
        · exact ((a5 a o e n1).trans fun o' e' => s4 a o' e').trans fun o' e' => .of (up a o' e' n1 fun z => by rw [z, hD] at e; cases e)
    · cases er
  · have he : n = ds.length := by omega
    subst he
    rw [List.drop_length] at er
    simp only [popL, Option.some.injEq, Prod.mk.injEq] at er
    obtain ⟨rfl, rfl⟩ := er
    rw [List.append_nil] at hd
    subst hd
    have A := envA P
    obtain ⟨us, acc, a1, a2, a3, a4, a5⟩ := P
    refine .inl ⟨wst rfl, q Da H' _ ((Aft.quiet R ok s1).trans A) (s1.free hD) (fun f hf m => ?_) ⟨acc, a3, a4⟩⟩
    rcases List.mem_or_eq_of_mem_set hf with z | z
    · exact R1.tr f z Da m hD
    · subst z; exact lD (List.mem_singleton.mp m)
variable {pos px py cpos apos spos p1 : Pos} {x y : Str} {k iter tg0 : Expr} {scope : Scope} {own : List (Str × Nat)} {tg : T} {src : I} {t : Nat}
/-- the reading of the statement -/
theorem popLc_got {tp : Bool} {E : Ends} {σ : L2.St} {H : Hp} (h : tS X.K (exS cal fu (.popLc t tp i ek tg src (own.map (·.2)))) E σ H) :
    tLc (tI X.K (evi cal src)) (tG X.K (own.map (·.2)) tg) (tT X.K (evt cal .no)) (tBM X.K "list" rPopAt (tVar i) (tA X.K (evs cal (.cons ek .nil)))) (own.map (·.2)) σ H
      (fun v H' => ∃ (Da : Addr) (acc : List V), v = .ref Da ∧ H' Da = some (.lst acc) ∧ (tp = false → E.nx (σ.set t (some v)) H') ∧ (tp = true → ∀ q, H' q = none → E.nx (σ.set t (some (.ref q))) (upd H' q (.tup acc)))) := by
  obtain ⟨ρ, φ, fl, ρ', R, ok, e, q⟩ := h
  simp only [exS] at e
  split at e
  · rename_i ds e1
    split at e
    · rename_i xs ho
      split at e
      · rename_i hc
        obtain ⟨c1, c2, c3, c4, c5⟩ := hc
        split at e
        · cases e
        rename_i zs xs' ep
        obtain ⟨ρ2, est, e3⟩ := Option.map_eq_some_iff.mp e
        simp only [Prod.mk.injEq] at e3
        obtain ⟨rfl, rfl⟩ := e3
        refine pop_read R ok e1 ho c1 c2 c3 c4 c5 ep fun Da H' φ' A fr dj ⟨acc, ea, ra⟩ => ⟨Da, acc, rfl, ea, fun htp => ?_, fun htp w hw => ?_⟩
        · subst htp
          obtain ⟨φ2, B⟩ := aft_store (v := .ref Da) (g := [Da]) A (.lst (b := true) ea ra) (by simp) (fun a m => by rw [List.mem_singleton.mp m]; exact fr) (fun a m f hf => by rw [List.mem_singleton.mp m]; exact dj f hf) (by simpa using est)
          exact q _ _ φ2 B
        · subst htp
          have A2 := A.trans (Aft.quiet A.env A.okk (same_new (o := .tup acc) hw))
          obtain ⟨φ2, B⟩ := aft_store (v := .ref w) (g := []) A2 (ra.newTup hw) List.nodup_nil (fun a m => nomatch m) (fun a m => nomatch m) (by simpa using est)
          exact q _ _ φ2 B
      · cases e
    · cases e
  · cases e
theorem lc_mono {wi : TI} {g : TG} {tt : TT} {te : TE} {vs : List Nat} {σ : L2.St} {H : Hp} {Q Q' : VK} (hw : ∀ (R R' : It → Hp → Prop), wi σ H R → (∀ J H', R J H' → R' J H') → wi σ H R') (h : tLc wi g tt te vs σ H Q) (w : ∀ v H', Q v H' → Q' v H') : tLc wi g tt te vs σ H Q' := by
  refine hw _ _ h fun J H1 r Da hD => ?_
  obtain ⟨W, w0, step⟩ := r Da hD
  refine ⟨W, w0, fun i m H hW => ?_⟩
  rcases step i m H hW with ⟨s1, s2⟩ | s
  · exact .inl ⟨s1, w _ _ s2⟩
  · exact .inr s
theorem tI_mono {K : PySem.W.Frag} {f : Ev → Option (Bool × List D)} {σ : L2.St} {H : Hp} (R R' : It → Hp → Prop) (h : tI K f σ H R) (w : ∀ J H', R J H' → R' J H') : tI K f σ H R' := by
  obtain ⟨ρ, φ, b, ds, e1, e2, q⟩ := h
  exact ⟨ρ, φ, b, ds, e1, e2, fun J H1 g a1 a2 a3 a4 a5 => w _ _ (q J H1 g a1 a2 a3 a4 a5)⟩
variable (hc : X.calm = true) (hN : X.N.Nodup) (hy : X.N[t]? = some y) (hi : QI X tg0 iter (evi cal src)) (ok : BlkOk X.N X.env.scope scope own)
  (hg : ∀ (s : Shared) (H : Hp) (C : Addr) (cl : List (Str × Addr)) (fp : List Addr), QG (X.blk s H scope (compEnvC scope cl C X.env) fp) tg0 (own.map (·.2)) tg)
  (hx : ∀ (s : Shared) (H : Hp) (C : Addr) (cl : List (Str × Addr)) (fp : List Addr), PE (X.blk s H scope (compEnvC scope cl C X.env) fp) (.Name x px) (tVar i))
  (hk : ∀ (s : Shared) (H : Hp) (C : Addr) (cl : List (Str × Addr)) (fp : List Addr), QE (X.blk s H scope (compEnvC scope cl C X.env) fp) k (ev cal ek false)) (hs : noSet iter = true) (hns : noStar k = true) (hl : (apos.endLine == cpos.line) = true)
include hc hN hy hi ok hg hx hk hs hns hl
theorem elt_ok (s : Shared) (H : Hp) (C : Addr) (cl : List (Str × Addr)) (fp : List Addr) : PE (X.blk s H scope (compEnvC scope cl C X.env) fp) (.Call (.Attribute (.Name x px) "pop" apos) [k] [] cpos) (tBM X.K "list" rPopAt (tVar i) (tA X.K (evs cal (.cons ek .nil)))) :=
  pe_bm PySem.F.plainAttrs_list PySem.F.slot_list_pop PySem.F.type_list_pop mt_popAt (hx s H C cl fp) (QA_cons (hk s H C cl fp) QA_nil hns) (base_of rfl) (few_of hns) hl (star_of hns) rfl
/-- y = [xs.pop(k) for ..], the store within -/
theorem S_popLc1 (hyl : X.env.scope.names.lookup y = some .local) (hsw : swapsWith (.ListComp (.Call (.Attribute (.Name x px) "pop" apos) [k] [] cpos) [⟨tg0, iter, [], 0⟩] scope p1) (some (.Name y py)) spos.line X.env = pure true) :
    QS X (.Assign [.Name y py] (.ListComp (.Call (.Attribute (.Name x px) "pop" apos) [k] [] cpos) [⟨tg0, iter, [], 0⟩] scope p1) spos) (exS cal fu (.popLc t false i ek tg src (own.map (·.2)))) := by
  refine ps_imp (ps_setLc (wi := tI X.K (evi cal src)) (g := tG X.K (own.map fun p : Str × Nat => p.2) tg) (tt := tT X.K (evt cal .no)) (te := tBM X.K "list" rPopAt (tVar i) (tA X.K (evs cal (.cons ek .nil)))) hc hN hy hyl hsw hi ok hg
    (fun s H C cl fp => QTs_no (X := X.blk s H scope (compEnvC scope cl C X.env) fp) (cal := cal)) (elt_ok hc hN hy hi ok hg hx hk hs hns hl) (folded_of hs)) fun E σ H h => ?_
  exact lc_mono (tI_mono) (popLc_got h) fun v H' ⟨Da, acc, _, _, a, _⟩ => a rfl
/-- the same, stored behind -/
theorem S_popLc2 (hyl : L2.Loc X.env.scope y) (hf : X.fn y = true ∨ X.env.scope.names.lookup y = some .local) (hsw : swapsWith (.ListComp (.Call (.Attribute (.Name x px) "pop" apos) [k] [] cpos) [⟨tg0, iter, [], 0⟩] scope p1) (some (.Name y py)) spos.line X.env = pure false) :
    QS X (.Assign [.Name y py] (.ListComp (.Call (.Attribute (.Name x px) "pop" apos) [k] [] cpos) [⟨tg0, iter, [], 0⟩] scope p1) spos) (exS cal fu (.popLc t false i ek tg src (own.map (·.2)))) := by
  refine ps_imp (ps_set hN hy hyl (pe_lc (wi := tI X.K (evi cal src)) (g := tG X.K (own.map fun p : Str × Nat => p.2) tg) (tt := tT X.K (evt cal .no)) (te := tBM X.K "list" rPopAt (tVar i) (tA X.K (evs cal (.cons ek .nil)))) hc hN hi ok hg
    (fun s H C cl fp => QTs_no (X := X.blk s H scope (compEnvC scope cl C X.env) fp) (cal := cal)) (elt_ok hc hN hy hi ok hg hx hk hs hns hl) (folded_of hs)) hsw hf) fun E σ H h => ?_
  exact lc_mono (tI_mono) (popLc_got h) fun v H' ⟨Da, acc, _, _, a, _⟩ => a rfl
/-- y = tuple([xs.pop(k) for ..]) -/
theorem S_popLc3 {p2 p3 : Pos} (hyl : L2.Loc X.env.scope y) (hf : X.fn y = true ∨ X.env.scope.names.lookup y = some .local) (hgt : Gl X "tuple") (hmt : X.mg "tuple" = none) :
    QS X (.Assign [.Name y py] (.Call (.Name "tuple" p2) [.ListComp (.Call (.Attribute (.Name x px) "pop" apos) [k] [] cpos) [⟨tg0, iter, [], 0⟩] scope p1] [] p3) spos) (exS cal fu (.popLc t true i ek tg src (own.map (·.2)))) := by
  refine ps_imp (ps_set hN hy hyl (pe_callTy call_tuple_of hgt hmt (by decide +kernel) (pa_cons (pe_lc (wi := tI X.K (evi cal src)) (g := tG X.K (own.map fun p : Str × Nat => p.2) tg) (tt := tT X.K (evt cal .no)) (te := tBM X.K "list" rPopAt (tVar i) (tA X.K (evs cal (.cons ek .nil)))) hc hN hi ok hg
    (fun s H C cl fp => QTs_no (X := X.blk s H scope (compEnvC scope cl C X.env) fp) (cal := cal)) (elt_ok hc hN hy hi ok hg hx hk hs hns hl) (folded_of hs)) pa_nil rfl) (by decide) (by decide) rfl rfl) rfl hf) fun E σ H h => ?_
  have := lc_mono (Q' := fun x H1 => ∃ (p : Addr) (ys : List V), [x] = [V.ref p] ∧ ((SqL X.K H1 p ys ∧ ∀ l, H1 l = none → E.nx (σ.set t (some (.ref l))) (upd H1 l (.tup ys))) ∨ (SqT X.K H1 p ys ∧ E.nx (σ.set t (some (.ref p))) H1))) tI_mono (popLc_got h) fun v H' ⟨Da, acc, e1, e2, _, a⟩ => ⟨Da, acc, by rw [e1], .inl ⟨SqL.of e2, fun w hw => a rfl w hw⟩⟩
  exact this
end
section
variable {X : Cx} {cc : CC} {cal : Nat → List (Bool × D) → Option (Bool × D)} {fu : Nat}
/-- a, b = e1, e2 -/
theorem S_par {i j : Nat} {x y : Str} {a b : Expr} {ea eb : E} {px py pt pos pt2 : Pos} {kt k2 : Nat} (hc : X.calm = true) (hN : X.N.Nodup) (hi : X.N[i]? = some x) (hj : X.N[j]? = some y) (hij : i ≠ j)
    (hx : X.env.scope.names.lookup x = some .local) (hy : X.env.scope.names.lookup y = some .local) (ha : QA X [a, b] (evs cal (.cons ea (.cons eb .nil))))
    (hw : swappedStores [.Tuple [.Name x px, .Name y py] kt pt] (.Tuple [a, b] k2 pt2) X.env = pure (some [x, y])) :
    QS X (.Assign [.Tuple [.Name x px, .Name y py] kt pt] (.Tuple [a, b] k2 pt2) pos) (exS cal fu (.asg (.t (.cons (.n i) (.cons (.n j) .nil))) (.tup (.cons ea (.cons eb .nil))))) := by
  refine ps_imp (ps_par hc hN hi hj hij hx hy ha hw rfl) fun E σ H ⟨ρ, φ, fl, ρ', R, ok, e, q⟩ => ?_
  simp only [exS, ev, fin, Bool.false_eq_true, if_false, vn] at e
  split at e
  · cases e
  rename_i bb dd e1
  split at e1
  · cases e1
  rename_i ps e2
  split at e1
  · rename_i hl
    simp only [Option.some.injEq, Prod.mk.injEq] at e1
    obtain ⟨rfl, rfl⟩ := e1
    obtain ⟨ρ1, est, e3⟩ := Option.map_eq_some_iff.mp e
    simp only [Prod.mk.injEq] at e3
    obtain ⟨rfl, rfl⟩ := e3
    refine ⟨ρ, φ, ps, R, e2, fun vs H1 gs G => ?_⟩
    obtain ⟨b, hb, r1, r2, r3⟩ := disp_got G
    rw [← hb] at est
    have est' : setTs (.cons (.n i) (.cons (.n j) .nil)) b (ps.map (·.2)) (if b then ρ else shareE none ρ) = some ρ1 := est
    generalize hds : ps.map (·.2) = ds at est' r1
    generalize hff : gs.flatten = ff at r1 r2 r3
    cases r1 with
    | nil => simp [setTs] at est'
    | @cons v1 vs1 d1 ds1 f1 fs1 ra rb =>
      cases rb with
      | nil =>
        simp only [setTs] at est'
        split at est' <;> simp [setTs] at est'
      | @cons v2 vs2 d2 ds2 f2 fs2 rc rd =>
        cases rd with
        | cons _ _ =>
          simp only [setTs] at est'
          split at est'
          · cases est'
          · split at est'
            · cases est'
            · simp [setTs] at est'
        | nil =>
          simp only [setTs] at est'
          split at est'
          · cases est'
          rename_i ρa ea1
          split at est'
          · cases est'
          rename_i ρb eb1
          simp only [setTs, Option.some.injEq] at est'
          subst est'
          have Rs : EnvR X.K H1 σ (if b then ρ else shareE none ρ) φ := by
            cases b with
            | true => exact R.same G.same
            | false => exact (R.share none).same G.same
          obtain ⟨φa, Sa⟩ := SetR.name Rs ra ea1 (vs := [i, j]) (by simp)
          obtain ⟨φb, Sb⟩ := SetR.name Sa.env rc eb1 (vs := [i, j]) (by simp)
          have S := Sa.trans Sb
          refine ⟨v1, v2, rfl, q H1 _ φb ?_⟩
          simp only [List.append_nil] at r2 r3
          cases b with
          | true => exact aft_set R G.same S ok (fun a h => h) r2 r3 fun z => nomatch z
          | false => exact aft_set (ρs := shareE none ρ) R G.same S (okk_share R ok none) (fun a h => own_share (o := none) R h) r2 r3 fun _ a _ h => share_all R h
  · cases e1
end
end Den

set_option Elab.async false
set_option linter.all false
set_option maxRecDepth 100000
/-! DenR: the reading of statements off their text, and of defs. -/
namespace Den
open PySem PySem.Spec PyProof.Rows L2 RZ

section
variable {X : Cx} {cal : Nat → List (Bool × D) → Option (Bool × D)} {fu : Nat} {pos : Pos}
theorem S_retN : QS X (.Return none pos) (exS cal fu (.ret (.k .none))) := by
  refine ps_imp ps_retN fun E σ H ⟨ρ, φ, fl, ρ', R, ok, e, q⟩ => ?_
  simp only [exS, ev, fin, Bool.false_eq_true, if_false, Option.some.injEq, Prod.mk.injEq] at e
  obtain ⟨rfl, rfl⟩ := e
  exact q H .non [] ⟨fun a o e _ => .of e, fun a h => h, .non, fun _ => List.nodup_nil, fun a m => nomatch m⟩
end
def swB (cc : CC) (y : Str) (py : Pos) (scope : Scope) (p1 : Pos) : Bool :=
  decide (cc.sc.names.lookup y = some .local) && (py.line == p1.line) && !(scope.names.any fun (n, k) => n == y && (k == .local || k == .cell))
def isPop : Expr → Option (Str × Expr)
  | .Call (.Attribute (.Name x _) m apos) [k] [] cpos => if m = "pop" ∧ (apos.endLine == cpos.line) = true ∧ noStar k = true then some (x, k) else none
  | _ => none
/-- [xs.pop(k) for ..] -/
def cPopLc (f : Cf) (cc : CC) (t : Nat) (tp : Bool) (elt : Expr) (gens : List Comprehension) (scope : Scope) : Option S :=
  match isPop elt with
  | none => none
  | some (x, k) => if blkC cc.N cc.sc scope (ownOf cc scope) then
    match gens with
    | [⟨tg, iter, [], 0⟩] => if noSet iter then match cIt (f cc false) cc tg iter, cTg (cc.blk scope) tg, f (cc.blk scope) false k, cVar (cc.blk scope) x with
      | some s, some tt, some ek, some (.v i) => if (namesT tt).all (fun j => decide (j ∈ (ownOf cc scope).map (·.2))) then some (.popLc t tp i ek tt s ((ownOf cc scope).map (·.2))) else none
      | _, _, _, _ => none else none
    | _ => none else none
def cAsgN (f : Cf) (cc : CC) (y : Str) (py : Pos) (t : Nat) (e : Expr) : Option S :=
  match e with
  | .Name x _ => (cVar cc x).map (.asg (.n t))
  | .Call (.Attribute (.Name x _) m apos) [] [] cpos => if m = "pop" ∧ (apos.endLine == cpos.line) = true then match cVar cc x with
    | some (.v i) => some (.pop (.n t) i)
    | _ => none else none
  | .Call (.Attribute (.Name x _) m apos) [k] [] cpos => if m = "pop" ∧ (apos.endLine == cpos.line) = true ∧ noStar k = true then match cVar cc x, f cc false k with
    | some (.v i), some ek => some (.popAt (.n t) i ek)
    | _, _ => none else none
  | .ListComp elt gens scope p1 => match isPop elt with
    | some _ => cPopLc f cc t false elt gens scope
    | none => (cLc f cc elt gens scope).map (.asg (.n t))
  | .DictComp key val gens scope p1 => if swB cc y py scope p1 then none else (cDc f cc key val gens scope).map (.asg (.n t))
  | .Call (.Name x p) [.ListComp elt gens scope p1] [] p3 => match isPop elt with
    | some _ => if x = "tuple" ∧ blt cc x then cPopLc f cc t true elt gens scope else none
    | none => (cP f cc (.Call (.Name x p) [.ListComp elt gens scope p1] [] p3)).map (.asg (.n t))
  | e => (f cc false e).map (.asg (.n t))
def parB (cc : CC) (x y : Str) (px py : Pos) (a b : Expr) : Bool :=
  decide (cc.sc.names.lookup x = some .local) && decide (cc.sc.names.lookup y = some .local) && !decide (x = y) && (py.line == px.line) && noStar a && noStar b && !(foldedForSure 8 a && foldedForSure 8 b) && !(constantsAlone 8 a && constantsAlone 8 b)
def swNames (cc : CC) (ts : List Expr) : List Str := ts.filterMap fun
  | .Name id pos => if cc.sc.names.lookup id == some .local && pos.line == (ts.head?.map (·.pos.line)).getD 0 then some id else none
  | _ => none
/-- targets and values that CPython does not swap -/
def noSw (cc : CC) (ts vs : List Expr) : Bool := (!(ts.length == 2 || ts.length == 3) || vs.length != ts.length) || (swNames cc ts).length != ts.length
/-- xs.append(ys.pop(k)) -/
def cPopA (f : Cf) (cc : CC) (x : Str) (e : Expr) : Option S :=
  match e with
  | .Call (.Attribute (.Name y _) m apos) [k] [] cpos => if m = "pop" ∧ (apos.endLine == cpos.line) = true ∧ noStar k = true then match cVar cc x, cVar cc y, f cc false k with
    | some (.v t), some (.v i), some ek => some (.popA t i ek)
    | _, _, _ => none else none
  | _ => none
def cAsg (f : Cf) (cc : CC) (tg e : Expr) : Option S :=
  match tg with
  | .Name y py => if isLoc cc y then match ixOf y cc.N 0 with
    | some t => cAsgN f cc y py t e
    | none => none else none
  | .Subscript (.Name x _) k _ => if notSlice k then match cVar cc x, f cc false k, f cc false e with
    | some (.v i), some ek, some ea => some (.set1 i ek ea)
    | _, _, _ => none else none
  | .Subscript (.Subscript (.Name x _) k _) k2 _ => if notSlice k && notSlice k2 then match cVar cc x, f cc false k, f cc false k2, f cc false e with
    | some (.v i), some ek, some ek2, some ea => some (.set2 i ek ek2 ea)
    | _, _, _, _ => none else none
  | .Tuple es _ _ => match e with
    | .Tuple vs _ _ => if noSw cc es vs then match cTgs cc es, cList (f cc false) vs with
      | some ts, some zs => some (.asg (.t ts) (.tup zs))
      | _, _ => none
      else match es, vs with
      | [.Name x px, .Name y py], [a, b] => if parB cc x y px py a b then match ixOf x cc.N 0, ixOf y cc.N 0, cList (f cc false) [a, b] with
        | some i, some j, some zs => some (.asg (.t (.cons (.n i) (.cons (.n j) .nil))) (.tup zs))
        | _, _, _ => none else none
      | _, _ => none
    | e => match cTgs cc es, f cc false e with
      | some ts, some ea => (match ea with
        | .v i => some (.asg (.t ts) (.ite (.k (.bool true)) (.v i) (.v i)))
        | ea => some (.asg (.t ts) ea))
      | _, _ => none
  | _ => none
def cSs (g : Stmt → Option S) : List Stmt → Option Ss
  | [] => some .nil
  | s :: r => match g s, cSs g r with
    | some a, some b => some (.cons a b)
    | _, _ => none
def cSt (f : Cf) : Nat → CC → Stmt → Option S
  | 0, _, _ => none
  | n + 1, cc, st => match st with
    | .Pass _ => some .nop
    | .Expr (.Constant (.str _) _ _) _ => some .nop
    | .Break _ => some .brk
    | .Continue _ => some .cnt
    | .Return none _ => some (.ret (.k .none))
    | .Return (some e) _ => match e with
      | .Name x _ => match cVar cc x with
        | some (.v i) => some (.retV i)
        | some z => some (.ret z)
        | none => none
      | e => (f cc false e).map .ret
    | .If c a b _ => match f cc true c, cSs (cSt f n cc) a, cSs (cSt f n cc) b with
      | some x, some y, some z => some (.ife x y z)
      | _, _, _ => none
    | .For tg (.Name x px) body [] pos => if decide ((pos.line + 1000000) ∈ cc.td) = true then match cVar cc x, cTg cc tg, cSs (cSt f n cc) body with
      | some (.v i), some t, some b => some (.ford t i b)
      | _, _, _ => none else match cIt (f cc false) cc tg (.Name x px), cTg cc tg, cSs (cSt f n cc) body with
      | some s, some t, some b => some (.fore t s b)
      | _, _, _ => none
    | .For tg it body [] _ => if noSet it then match cIt (f cc false) cc tg it, cTg cc tg, cSs (cSt f n cc) body with
      | some s, some t, some b => some (.fore t s b)
      | _, _, _ => none else none
    | .While c body [] _ => match f cc true c, cSs (cSt f n cc) body with
      | some x, some b => some (.whil x b)
      | _, _ => none
    | .AugAssign (.Name x _) op e _ => if isLoc cc x then match ixOf x cc.N 0, f cc false e with
      | some i, some z => match op with
        | .Add => some (.aug i .add z)
        | .Sub => some (.aug i .sub z)
        | _ => none
      | _, _ => none else none
    | .AugAssign (.Subscript (.Name x _) k _) op e _ => if notSlice k then match cVar cc x, f cc false k, f cc false e with
      | some (.v i), some ek, some ea => match op with
        | .Add => some (.aug1 i ek .add ea)
        | .Sub => some (.aug1 i ek .sub ea)
        | _ => none
      | _, _, _ => none else none
    | .Expr (.Call (.Attribute (.Name x _) m apos) [e] [] cpos) _ => if m = "append" ∧ (apos.endLine == cpos.line) = true ∧ noStar e = true then match cVar cc x, f cc false e with
      | some (.v i), some z => some (.app i z)
      | _, _ => cPopA f cc x e else if m = "extend" ∧ (apos.endLine == cpos.line) = true ∧ noStar e = true then match cVar cc x, f cc false e with
      | some (.v i), some z => some (.ext i z)
      | _, _ => none else none
    | .Assign [.Tuple es k0 p0] (.Call (.Attribute (.Name x px) m apos) [k] [] cpos) _ => if (m = "pop" ∧ decide ((cpos.line + 4000000) ∈ cc.td) = true) ∧ (apos.endLine == cpos.line) = true ∧ noStar k = true then match cVar cc x, f cc false k, cTgs cc es with
      | some (.v i), some ek, some ts => some (.popD (.t ts) i ek)
      | _, _, _ => none else cAsg f cc (.Tuple es k0 p0) (.Call (.Attribute (.Name x px) m apos) [k] [] cpos)
    | .Assign [tg] e _ => cAsg f cc tg e
    | _ => none
/-- a def -/
def cFn (cc : CC) (np : Nat) (body : List Stmt) : Option Fn :=
  if cc.sc.kind = .function then (cSs (cSt (cX 40) 40 cc) body).map fun b => ⟨np, cc.N.length, b⟩ else none

section
variable {X : Cx} {cc : CC} {cal : Nat → List (Bool × D) → Option (Bool × D)} {k : Nat} {fu : Nat} {pos : Pos}
theorem sw_lc (M : Mat X cc cal k) (hk : cc.sc.kind = .function) {y : Str} {py p1 : Pos} {elt : Expr} {gens : List Comprehension} {scope : Scope} {l : Nat} : swapsWith (.ListComp elt gens scope p1) (some (.Name y py)) l X.env = pure (swB cc y py scope p1) := by
  have hb : X.env.blockKind = .function := by unfold Env.blockKind; rw [M.sc, hk]; rfl
  have hy : X.env.kindOf y = cc.sc.names.lookup y := by unfold Env.kindOf; rw [M.sc]
  unfold swapsWith swB
  simp only [hb, hy, Expr.pos]
  by_cases h : cc.sc.names.lookup y = some .local
  · simp only [h, decide_true]; rfl
  · have h2 : (cc.sc.names.lookup y == some NameKind.local) = false := by simpa using h
    simp only [h2, decide_eq_false h, Bool.and_false, Bool.false_and]
theorem sw_dc (M : Mat X cc cal k) (hk : cc.sc.kind = .function) {y : Str} {py p1 : Pos} {key val : Expr} {gens : List Comprehension} {scope : Scope} {l : Nat} : swapsWith (.DictComp key val gens scope p1) (some (.Name y py)) l X.env = pure (swB cc y py scope p1) := by
  have hb : X.env.blockKind = .function := by unfold Env.blockKind; rw [M.sc, hk]; rfl
  have hy : X.env.kindOf y = cc.sc.names.lookup y := by unfold Env.kindOf; rw [M.sc]
  unfold swapsWith swB
  simp only [hb, hy, Expr.pos]
  by_cases h : cc.sc.names.lookup y = some .local
  · simp only [h, decide_true]; rfl
  · have h2 : (cc.sc.names.lookup y == some NameKind.local) = false := by simpa using h
    simp only [h2, decide_eq_false h, Bool.and_false, Bool.false_and]
theorem sw_loc {y : Str} {py p1 : Pos} {scope : Scope} (M : Mat X cc cal k) (h : swB cc y py scope p1 = true) : X.env.scope.names.lookup y = some .local := by
  unfold swB at h
  simp only [Bool.and_eq_true, decide_eq_true_eq] at h
  rw [M.sc]; exact h.1.1
/-- stored within -/
theorem lcS_ok (M : Mat X cc cal k) {f : Cf} (hf : Sd cal k f) {y : Str} {py p1 : Pos} {t : Nat} {elt : Expr} {gens : List Comprehension} {scope : Scope} {z : E} (hy : X.N[t]? = some y) (hyl : X.env.scope.names.lookup y = some .local)
    (hsw : swapsWith (.ListComp elt gens scope p1) (some (.Name y py)) pos.line X.env = pure true) (h : cLc f cc elt gens scope = some z) : QS X (.Assign [.Name y py] (.ListComp elt gens scope p1) pos) (exS cal fu (.asg (.n t) z)) := by
  have hv := fun i => (lc_pl h).2 i
  have hvn : vn z = none := by cases z <;> first | rfl | exact absurd rfl (hv _)
  have he0 : ∀ e z, f cc false e = some z → QE X e (ev cal z false) := fun e z => (hf X cc M e z).1
  have hv0 : ∀ e i, f cc false e = some (.v i) → PE X e (tVar i) := fun e i => (hf X cc M e (.v i)).2.2 i
  unfold cLc at h
  split at h
  · rename_i hb
    have ok : BlkOk X.N X.env.scope scope (ownOf cc scope) := by rw [M.hN, M.sc]; exact blkOk_by hb
    split at h
    · split at h
      · rename_i tg iter ifs hs
        split at h
        · rename_i s tt i e h1 h2 h3 h4
          split at h
          · rename_i hn
            cases h
            have hn' : ∀ j ∈ namesT tt, j ∈ (ownOf cc scope).map (·.2) := fun j hj => of_decide_eq_true (List.all_eq_true.mp hn j hj)
            refine ps_imp (ps_setLc (wi := tI X.K (evi cal s)) (g := tG X.K ((ownOf cc scope).map fun p : Str × Nat => p.2) tt) (tt := tT X.K (evt cal i)) (te := tQ X.K (ev cal e false)) M.calm M.nd hy hyl hsw (QI_of (it_ok M he0 hv0 h1)) ok (fun s H C cl fp => cTg_ok (M.blk s H scope C cl fp) h2 hn') (fun s H C cl fp => ifs_ok (fun e z hz => (hf _ _ (M.blk s H scope C cl fp) e z).2.1 hz) h3)
              (fun s H C cl fp => (hf _ _ (M.blk s H scope C cl fp) _ _).1 h4) (folded_of hs)) fun E σ H h => lc_read ?_
            obtain ⟨ρ, φ, b, d, R, e1, q⟩ := asg_got hvn h
            exact ⟨ρ, φ, b, d, R, e1, fun v H1 g G => gname_got (q v H1 g G)⟩
          · cases h
        · cases h
      · cases h
    · split at h
      · rename_i tg iter tg1 iter1 hs
        rw [Bool.and_eq_true] at hs
        split at h
        · rename_i s tt s1 t1 e h1 h2 h3 h4 h5
          split at h
          · rename_i hn
            rw [Bool.and_eq_true] at hn
            cases h
            have hn' : ∀ j ∈ namesT tt, j ∈ (ownOf cc scope).map (·.2) := fun j hj => of_decide_eq_true (List.all_eq_true.mp hn.1 j hj)
            have hn2 : ∀ j ∈ namesT t1, j ∈ (ownOf cc scope).map (·.2) := fun j hj => of_decide_eq_true (List.all_eq_true.mp hn.2 j hj)
            refine ps_imp (ps_setLc2 (wi := tI X.K (evi cal s)) (g := tG X.K ((ownOf cc scope).map fun p : Str × Nat => p.2) tt) (tt := tT X.K (evt cal .no)) (wi1 := tI X.K (evi cal s1)) (g1 := tG X.K (namesT t1) t1) (tt1 := tT X.K (evt cal .no)) (te := tQ X.K (ev cal e false)) M.calm M.nd hy hyl hsw (QI_of (it_ok M he0 hv0 h1)) ok hn2 (fun s H C cl fp => cTg_ok (M.blk s H scope C cl fp) h2 hn')
              (fun s H C cl fp => QTs_no (X := X.blk s H scope (compEnvC scope cl C X.env) fp) (cal := cal))
              (fun s H C cl fp => QI_of (it_ok (M.blk s H scope C cl fp) (fun e z => (hf _ _ (M.blk s H scope C cl fp) e z).1) (fun e i => (hf _ _ (M.blk s H scope C cl fp) e (.v i)).2.2 i) h3))
              (fun s H C cl fp => cTg_ok (M.blk s H scope C cl fp) h4 fun i hi => hi) (fun s H C cl fp => QTs_no (X := X.blk s H scope (compEnvC scope cl C X.env) fp) (cal := cal)) (fun s H C cl fp => (hf _ _ (M.blk s H scope C cl fp) _ _).1 h5) (folded_of hs.1) (fun _ => folded_of hs.2)) fun E σ H h => lc2_read ?_
            obtain ⟨ρ, φ, b, d, R, e1, q⟩ := asg_got hvn h
            exact ⟨ρ, φ, b, d, R, e1, fun v H1 g G => gname_got (q v H1 g G)⟩
          · cases h
        · cases h
      · cases h
    · cases h
  · cases h
theorem isPop_of {e : Expr} {x : Str} {kk : Expr} (h : isPop e = some (x, kk)) : ∃ px apos cpos, e = .Call (.Attribute (.Name x px) "pop" apos) [kk] [] cpos ∧ (apos.endLine == cpos.line) = true ∧ noStar kk = true := by
  unfold isPop at h
  split at h
  · split at h
    · rename_i hc
      obtain ⟨rfl, h1, h2⟩ := hc
      cases h
      exact ⟨_, _, _, rfl, h1, h2⟩
    · cases h
  · cases h
theorem popLc_ok (M : Mat X cc cal k) {f : Cf} (hf : Sd cal k f) (hkind : cc.sc.kind = .function) {y : Str} {py p1 : Pos} {t : Nat} {tp : Bool} {elt e : Expr} {gens : List Comprehension} {scope : Scope} {z : S} (hy : X.N[t]? = some y) (hl : isLoc cc y = true) (h : cPopLc f cc t tp elt gens scope = some z)
    (he : (tp = false ∧ e = .ListComp elt gens scope p1) ∨ (tp = true ∧ blt cc "tuple" = true ∧ ∃ p2 p3, e = .Call (.Name "tuple" p2) [.ListComp elt gens scope p1] [] p3)) : QS X (.Assign [.Name y py] e pos) (exS cal fu z) := by
  have he0 : ∀ e z, f cc false e = some z → QE X e (ev cal z false) := fun e z => (hf X cc M e z).1
  have hv0 : ∀ e i, f cc false e = some (.v i) → PE X e (tVar i) := fun e i => (hf X cc M e (.v i)).2.2 i
  obtain ⟨l1, l2⟩ := isLoc_of M hl
  unfold cPopLc at h
  split at h
  · cases h
  rename_i x kk hp
  obtain ⟨px, apos, cpos, rfl, hline, hns⟩ := isPop_of hp
  split at h
  · rename_i hb
    have ok : BlkOk X.N X.env.scope scope (ownOf cc scope) := by rw [M.hN, M.sc]; exact blkOk_by hb
    split at h
    · split at h
      · rename_i tg iter hs
        split at h
        · rename_i s tt ek i h1 h2 h3 h4
          split at h
          · rename_i hn
            cases h
            have hn' : ∀ j ∈ namesT tt, j ∈ (ownOf cc scope).map (·.2) := fun j hj => of_decide_eq_true (List.all_eq_true.mp hn j hj)
            have a1 := QI_of (it_ok M he0 hv0 h1)
            have a2 := fun (s : Shared) (H : Hp) (C : Addr) (cl : List (Str × Addr)) (fp : List Addr) => cTg_ok (M.blk s H scope C cl fp) h2 hn'
            have a3 := fun (s : Shared) (H : Hp) (C : Addr) (cl : List (Str × Addr)) (fp : List Addr) => cVar_var (M.blk s H scope C cl fp) (pos := px) h4
            have a4 := fun (s : Shared) (H : Hp) (C : Addr) (cl : List (Str × Addr)) (fp : List Addr) => (hf _ _ (M.blk s H scope C cl fp) _ _).1 h3
            rcases he with ⟨rfl, rfl⟩ | ⟨rfl, hbt, p2, p3, rfl⟩
            · have sw := sw_lc M hkind (y := y) (py := py) (p1 := p1) (elt := .Call (.Attribute (.Name x px) "pop" apos) [kk] [] cpos) (gens := [⟨tg, iter, [], 0⟩]) (scope := scope) (l := pos.line)
              cases hsw : swB cc y py scope p1 with
              | true =>
                rw [hsw] at sw
                exact S_popLc1 M.calm M.nd hy a1 ok a2 a3 a4 hs hns hline (sw_loc M hsw) sw
              | false =>
                rw [hsw] at sw
                exact S_popLc2 M.calm M.nd hy a1 ok a2 a3 a4 hs hns hline l1 l2 sw
            · obtain ⟨g1, g2, _⟩ := blt_of M hbt
              exact S_popLc3 M.calm M.nd hy a1 ok a2 a3 a4 hs hns hline l1 l2 g1 g2
          · cases h
        · cases h
      · cases h
    · cases h
  · cases h
theorem lcd_pl {f : Cf} {elt : Expr} {gens : List Comprehension} {scope : Scope} {z : E} (h : cLcd f cc elt gens scope = some z) : ∀ i, z ≠ .v i := by
  unfold cLcd at h
  repeat' (split at h)
  all_goals first
    | (cases h; done)
    | (cases h; exact fun _ e => nomatch e)
theorem cP_v {f : Cf} {e : Expr} {i : Nat} (h : cP f cc e = some (.v i)) : ∃ x p, e = .Name x p ∧ cVar cc x = some (.v i) := by
  unfold cP at h
  split at h
  · rename_i hz
    cases h
    exact absurd rfl ((ex_pl hz).2 i)
  split at h
  · exact ⟨_, _, rfl, h⟩
  · obtain ⟨y, _, e⟩ := Option.map_eq_some_iff.mp h; cases e
  · split at h <;> cases h
  · obtain ⟨y, _, e⟩ := Option.map_eq_some_iff.mp h; cases e
  · obtain ⟨y, _, e⟩ := Option.map_eq_some_iff.mp h; cases e
  · obtain ⟨y, _, e⟩ := Option.map_eq_some_iff.mp h; cases e
  · cases h
  · exact absurd rfl ((ga_pl h).2 i)
  · exact absurd rfl ((call_pl h).2 i)
  · exact absurd rfl ((mt_pl h).2 i)
  · exact absurd rfl ((sub_pl h).2 i)
  · split at h
    · rename_i hw
      cases h
      exact absurd rfl (lcd_pl hw i)
    · exact absurd rfl ((lc_pl h).2 i)
  · exact absurd rfl ((dc_pl h).2 i)
  · cases h
theorem cX_v {n : Nat} {e : Expr} {i : Nat} (h : cX n cc false e = some (.v i)) : ∃ x p, e = .Name x p ∧ cVar cc x = some (.v i) := by
  cases n with
  | zero => cases h
  | succ n =>
    have h : cX1 (cX n) cc false e = some (.v i) := h
    unfold cX1 at h
    split at h
    · obtain ⟨y, _, e⟩ := Option.map_eq_some_iff.mp h; cases e
    · split at h
      · unfold cBool at h
        split at h
        · split at h <;> cases h
        · cases h
      · cases h
    · unfold cCmp at h
      repeat' (split at h)
      all_goals cases h
    · simp only [Bool.false_eq_true, if_false] at h
      split at h <;> cases h
    · rw [if_neg (fun z => nomatch z.1)] at h
      exact cP_v h
    · exact cP_v h
def notComp : Expr → Bool
  | .ListComp _ _ _ _ => false
  | .DictComp _ _ _ _ _ => false
  | .SetComp _ _ _ _ => false
  | _ => true
theorem sw_plain {e : Expr} {t : Option Expr} {l : Nat} {env : Env} (h : notComp e = true) : swapsWith e t l env = pure false := by
  cases e <;> first | rfl | (cases h; done)
theorem setE_ok (M : Mat X cc cal k) {n : Nat} {y : Str} {py : Pos} {t : Nat} {e : Expr} {z : E} (hy : X.N[t]? = some y) (hl : isLoc cc y = true) (he : QE X e (ev cal z false)) (hv : vn z = none) (hs : swapsWith e (some (.Name y py)) pos.line X.env = pure false) : QS X (.Assign [.Name y py] e pos) (exS cal fu (.asg (.n t) z)) := by
  obtain ⟨l1, l2⟩ := isLoc_of M hl
  exact S_set M.nd hy l1 he hs l2 hv
theorem asgN_ok (M : Mat X cc cal k) (hkind : cc.sc.kind = .function) {n : Nat} {y : Str} {py : Pos} {t : Nat} {e : Expr} {z : S} (hy : X.N[t]? = some y) (hl : isLoc cc y = true) (h : cAsgN (cX n) cc y py t e = some z) : QS X (.Assign [.Name y py] e pos) (exS cal fu z) := by
  have hf := cX_ok (cal := cal) (k := k) n
  obtain ⟨l1, l2⟩ := isLoc_of M hl
  unfold cAsgN at h
  split at h
  · rename_i x p
    obtain ⟨w, hw, rfl⟩ := Option.map_eq_some_iff.mp h
    by_cases hv : ∃ j, w = .v j
    · obtain ⟨j, rfl⟩ := hv
      exact S_setV M.nd hy l1 (cVar_var M hw) l2
    · exact setE_ok M hy hl (cVar_ok M hw) (by cases w <;> first | rfl | exact absurd ⟨_, rfl⟩ hv) rfl (n := n)
  · split at h
    · rename_i hc
      obtain ⟨rfl, hline⟩ := hc
      split at h
      · rename_i i hx
        cases h
        exact S_pop M.nd hy l1 l2 (cVar_var M hx) hline
      · cases h
    · cases h
  · split at h
    · rename_i hc
      obtain ⟨rfl, hline, hns⟩ := hc
      split at h
      · rename_i i ek hx hk
        cases h
        exact S_popAt M.nd hy l1 l2 (cVar_var M hx) ((hf X cc M _ _).1 hk) hns hline
      · cases h
    · cases h
  · rename_i elt gens scope p1
    split at h
    · exact popLc_ok M hf hkind hy hl h (.inl ⟨rfl, rfl⟩)
    · obtain ⟨w, hw, rfl⟩ := Option.map_eq_some_iff.mp h
      have sw := sw_lc M hkind (y := y) (py := py) (p1 := p1) (elt := elt) (gens := gens) (scope := scope) (l := pos.line)
      cases hsw : swB cc y py scope p1 with
      | true =>
        rw [hsw] at sw
        exact lcS_ok M hf hy (sw_loc M hsw) sw hw
      | false =>
        rw [hsw] at sw
        exact setE_ok M hy hl (lc_ok M hf hw) (by have := (lc_pl hw).2; cases w <;> first | rfl | exact absurd rfl (this _)) sw (n := n)
  · rename_i key val gens scope p1
    split at h
    · cases h
    · rename_i hsw
      obtain ⟨w, hw, rfl⟩ := Option.map_eq_some_iff.mp h
      have sw := sw_dc M hkind (y := y) (py := py) (p1 := p1) (key := key) (val := val) (gens := gens) (scope := scope) (l := pos.line)
      rw [show swB cc y py scope p1 = false by simpa using hsw] at sw
      exact setE_ok M hy hl (dc_ok M hf hw) (by have := (dc_pl hw).2; cases w <;> first | rfl | exact absurd rfl (this _)) sw (n := n)
  · split at h
    · split at h
      · rename_i hc
        obtain ⟨rfl, hb⟩ := hc
        exact popLc_ok M hf hkind hy hl h (.inr ⟨by
          unfold cPopLc at h
          rfl, hb, _, _, rfl⟩)
      · cases h
    · obtain ⟨w, hw, rfl⟩ := Option.map_eq_some_iff.mp h
      have hv : ∀ i, w ≠ .v i := by
        have hw2 := hw
        unfold cP at hw2
        split at hw2
        · rename_i z' hz
          cases hw2
          exact (ex_pl hz).2
        · exact (call_pl (show cCall (cX n cc false) cc _ _ = some w from hw2)).2
      exact setE_ok M hy hl (cP_ok M hf hw).1 (by cases w <;> first | rfl | exact absurd rfl (hv _)) rfl (n := n)
  · rename_i h1 h2 h3 h4 h5 h6
    obtain ⟨w, hw, rfl⟩ := Option.map_eq_some_iff.mp h
    have hv : ∀ i, w ≠ .v i := fun i e2 => by
      subst e2
      obtain ⟨x, p, rfl, _⟩ := cX_v hw
      exact h1 _ _ rfl
    have hnc : notComp e = true := by
      cases e <;> first | rfl | exact absurd rfl (h4 _ _ _ _) | exact absurd rfl (h5 _ _ _ _ _) | (exfalso; cases n <;> first | (cases hw; done) | (simp [cX, cX1, cP] at hw))
    exact setE_ok M hy hl ((hf X cc M _ _).1 hw) (by cases w <;> first | rfl | exact absurd rfl (hv _)) (sw_plain hnc) (n := n)
end
end Den

set_option Elab.async false
set_option linter.all false
set_option maxRecDepth 100000
/-! DenS: statements and defs: what is read off the text is what it does. -/
namespace Den
open PySem PySem.Spec PyProof.Rows L2 RZ

section
variable {X : Cx} {cc : CC} {cal : Nat → List (Bool × D) → Option (Bool × D)} {k : Nat} {fu : Nat} {pos : Pos}
theorem par_sw (M : Mat X cc cal k) (hkind : cc.sc.kind = .function) {x y : Str} {px py pt pt2 : Pos} {kt k2 : Nat} {a b : Expr} (h : parB cc x y px py a b = true) :
    swappedStores [.Tuple [.Name x px, .Name y py] kt pt] (.Tuple [a, b] k2 pt2) X.env = pure (some [x, y]) ∧ X.env.scope.names.lookup x = some .local ∧ X.env.scope.names.lookup y = some .local ∧ x ≠ y := by
  unfold parB at h
  simp only [Bool.and_eq_true, decide_eq_true_eq, Bool.not_eq_true', decide_eq_false_iff_not] at h
  obtain ⟨⟨⟨⟨⟨⟨⟨h1, h2⟩, h3⟩, h4⟩, h5⟩, h6⟩, h7⟩, h8⟩ := h
  refine ⟨?_, by rw [M.sc]; exact h1, by rw [M.sc]; exact h2, h3⟩
  have hb : X.env.blockKind = .function := by unfold Env.blockKind; rw [M.sc, hkind]; rfl
  have k1 : X.env.kindOf x = some .local := by unfold Env.kindOf; rw [M.sc]; exact h1
  have k2 : X.env.kindOf y = some .local := by unfold Env.kindOf; rw [M.sc]; exact h2
  have s1 : ([a, b].any fun | .Starred .. => true | _ => false) = false := by
    cases a <;> cases b <;> first | rfl | (cases h5; done) | (cases h6; done)
  have h3' : ¬ y = x := fun e => h3 e.symm
  unfold swappedStores
  simp only [hb, s1]
  have hl : (py.line == px.line) = true := h4
  have e2 : [x, y].eraseDups = [x, y] := by
    have : (y == x) = false := by simpa using h3'
    simp [List.eraseDups_cons, this]
  have l1 : (px.line == (([Expr.Name x px, Expr.Name y py].head?.map (·.pos.line)).getD 0)) = true := by simp [Expr.pos]
  have l2 : (py.line == (([Expr.Name x px, Expr.Name y py].head?.map (·.pos.line)).getD 0)) = true := by simpa [Expr.pos] using hl
  have a1 : ([a, b].all (foldedForSure 8)) = false := by simpa using h7
  have a2 : ([a, b].all (constantsAlone 8)) = false := by simpa using h8
  have bq : (some NameKind.local == some NameKind.local) = true := by decide
  refine (if_neg (by simp)).trans ((if_neg (by cases a <;> cases b <;> first | exact Bool.false_ne_true | (cases h5; done) | (cases h6; done))).trans ?_)
  simp only [List.filterMap_cons, List.filterMap_nil, k1, k2, l1, l2, bq, Bool.and_self, if_true, e2, a1, a2, List.length_cons, List.length_nil, bne_self_eq_false, Bool.or_self, Bool.false_eq_true, if_false]
theorem no_sw (M : Mat X cc cal k) {kt k2 : Nat} {pt pt2 : Pos} {es vs : List Expr} (h : noSw cc es vs = true) : swappedStores [.Tuple es kt pt] (.Tuple vs k2 pt2) X.env = pure none := by
  have hn : (es.filterMap fun
      | .Name id pos => if X.env.kindOf id == some .local && pos.line == (es.head?.map (·.pos.line)).getD 0 then some id else none
      | _ => none) = swNames cc es := by
    unfold swNames
    have hy : ∀ y, X.env.kindOf y = cc.sc.names.lookup y := fun y => by unfold Env.kindOf; rw [M.sc]
    congr 1
    funext e
    cases e <;> simp only [hy]
  unfold noSw at h
  rw [Bool.or_eq_true] at h
  unfold swappedStores
  by_cases h1 : (!(es.length == 2 || es.length == 3) || vs.length != es.length || X.env.blockKind != .function) = true
  · exact if_pos h1
  · refine (if_neg h1).trans ?_
    by_cases h2 : (vs.any fun | .Starred .. => true | _ => false) = true
    · exact if_pos h2
    · refine (if_neg h2).trans ?_
      have h3 : (swNames cc es).length != es.length := by
        rcases h with h | h
        · rw [h, Bool.true_or] at h1
          exact absurd rfl h1
        · exact h
      have h4 := h3
      rw [← hn] at h4
      exact if_pos (Bool.or_eq_true_iff.mpr (.inl h4))
theorem cList2 {f : Expr → Option E} {a b : Expr} {zs : Es} (h : cList f [a, b] = some zs) : ∃ x y, zs = .cons x (.cons y .nil) := by
  unfold cList at h
  split at h
  · split at h
    · rename_i x r hx hr
      cases h
      unfold cList at hr
      split at hr
      · split at hr
        · rename_i y r2 hy hr2
          cases hr
          cases hr2
          exact ⟨x, y, rfl⟩
        · cases hr
      · cases hr
    · cases h
  · cases h
theorem asg_ok (M : Mat X cc cal k) (hkind : cc.sc.kind = .function) {n : Nat} {tg e : Expr} {z : S} (h : cAsg (cX n) cc tg e = some z) : QS X (.Assign [tg] e pos) (exS cal fu z) := by
  have hf := cX_ok (cal := cal) (k := k) n
  have he0 : ∀ e z, cX n cc false e = some z → QE X e (ev cal z false) := fun e z => (hf X cc M e z).1
  have hu : X.A.units + 1 < cLine := by have := M.room.un; omega
  unfold cAsg at h
  split at h
  · split at h
    · rename_i hl
      split at h
      · rename_i t ht
        exact asgN_ok M hkind (ix_of M ht) hl h
      · cases h
    · cases h
  · split at h
    · rename_i hns
      split at h
      · rename_i i ek ea hx hk he
        cases h
        exact S_set1 hu (cVar_var M hx) (he0 _ _ hk) (he0 _ _ he) (asg_sub hns)
      · cases h
    · cases h
  · split at h
    · rename_i hns
      rw [Bool.and_eq_true] at hns
      split at h
      · rename_i i ek ek2 ea hx hk hk2 he
        cases h
        exact S_set2 (cVar_var M hx) (he0 _ _ hk) (he0 _ _ hk2) (he0 _ _ he) (plain_ix hns.1) hns.2
      · cases h
    · cases h
  · split at h
    · split at h
      · rename_i hsw
        split at h
        · rename_i ts zs hts hzs
          cases h
          obtain ⟨q1, q2, q3⟩ := cTgs_ok M hts (vs := namesT (.t ts)) fun i hi => by simpa [namesT] using hi
          obtain ⟨a1, a2⟩ := list_ok he0 hzs
          refine S_asg (Q_tup a1) (QG_t M.calm q1 q2 q3) rfl (no_sw M hsw) rfl rfl
        · cases h
      split at h
      · split at h
        · rename_i hp
          split at h
          · rename_i i j zs hi hj hz
            cases h
            obtain ⟨w1, w2, w3, w4⟩ := par_sw M hkind hp
            have q := (list_ok he0 hz).1
            obtain ⟨ea, eb, rfl⟩ := cList2 hz
            exact S_par M.calm M.nd (ix_of M hi) (ix_of M hj) (fun e => w4 (by
              have a := ix_of M hi
              have b := ix_of M hj
              rw [e, b] at a
              exact (Option.some.inj a).symm)) w2 w3 q w1
          · cases h
        · cases h
      · cases h
    · rename_i hnt
      split at h
      · rename_i ts ea hts hea
        split at h
        · rename_i i
          cases h
          obtain ⟨q1, q2, q3⟩ := cTgs_ok M hts (vs := namesT (.t ts)) fun i hi => by simpa [namesT] using hi
          have he1 : ev cal (.ite (.k (.bool true)) (.v i) (.v i)) false = ev cal (.v i) false := by
            funext ρ
            simp only [ev, fin, truD, if_true, Option.map_some]
          refine S_asg (by rw [he1]; exact he0 _ _ hea) (QG_t M.calm q1 q2 q3) ?_ ?_ rfl rfl
          · cases e <;> rfl
          · cases e <;> first | rfl | exact absurd rfl (hnt _ _ _)
        · rename_i hv
          cases h
          obtain ⟨q1, q2, q3⟩ := cTgs_ok M hts (vs := namesT (.t ts)) fun i hi => by simpa [namesT] using hi
          refine S_asg (he0 _ _ hea) (QG_t M.calm q1 q2 q3) ?_ ?_ rfl (by cases ea <;> first | rfl | exact absurd rfl (hv _))
          · cases e <;> rfl
          · cases e <;> first | rfl | exact absurd rfl (hnt _ _ _)
      · cases h
  · cases h
theorem ss_ok {g : Stmt → Option S} (hg : ∀ st z, g st = some z → QS X st (exS cal fu z)) : ∀ {sts : List Stmt} {z : Ss}, cSs g sts = some z → QSs X sts (exs cal fu z)
  | [], z, h => by cases h; exact Ss_nil
  | s :: r, z, h => by
    unfold cSs at h
    split at h
    · rename_i a b ha hb
      cases h
      exact Ss_cons (hg _ _ ha) (ss_ok hg hb)
    · cases h
theorem aug_sub {k : Expr} (h : notSlice k = true) : ∀ ov iv new, augStore k ov iv new = (do holding [new, ov, iv] (setItem ov iv new); release [new, ov, iv] []; pure .next) := by
  cases k <;> first | (cases h; done) | exact fun _ _ _ => rfl
theorem st_ok (M : Mat X cc cal k) (hkind : cc.sc.kind = .function) {m : Nat} : ∀ (n : Nat) (st : Stmt) (z : S), cSt (cX m) n cc st = some z → QS X st (exS cal fu z)
  | 0, _, _, h => by cases h
  | n + 1, st, z, h => by
    have hf := cX_ok (cal := cal) (k := k) m
    have he0 : ∀ e z, cX m cc false e = some z → QE X e (ev cal z false) := fun e z => (hf X cc M e z).1
    have ht0 : ∀ e z, cX m cc true e = some z → QT X e (ev cal z true) := fun e z => (hf X cc M e z).2.1
    have hv0 : ∀ e i, cX m cc false e = some (.v i) → PE X e (tVar i) := fun e i => (hf X cc M e (.v i)).2.2 i
    have ih := st_ok M hkind (m := m) n
    unfold cSt at h
    split at h
    · cases h; exact S_nop ps_pass
    · cases h; exact S_nop ps_doc
    · cases h; exact S_brk
    · cases h; exact S_cnt
    · cases h; exact S_retN
    · split at h
      · split at h
        · rename_i i hi
          cases h
          exact S_retV (cVar_var M hi)
        · rename_i w hw _
          cases h
          exact S_ret (cVar_ok M (by assumption))
        · cases h
      · obtain ⟨w, hw, rfl⟩ := Option.map_eq_some_iff.mp h
        exact S_ret (he0 _ _ hw)
    · split at h
      · rename_i x y w hx hy hw
        cases h
        exact S_ife (ht0 _ _ hx) (ss_ok ih hy) (ss_ok ih hw)
      · cases h
    · split at h
      · split at h
        · rename_i i t b h1 h2 h3
          cases h
          exact S_ford M.never M.calm (cVar_var M h1) (cTg_ok M h2 fun i hi => hi) (ss_ok ih h3)
        · cases h
      · split at h
        · rename_i s t b h1 h2 h3
          cases h
          exact S_fore M.never M.calm (it_ok M he0 hv0 h1) (cTg_ok M h2 fun i hi => hi) (ss_ok ih h3) rfl
        · cases h
    · split at h
      · rename_i hs
        split at h
        · rename_i s t b h1 h2 h3
          cases h
          exact S_fore M.never M.calm (it_ok M he0 hv0 h1) (cTg_ok M h2 fun i hi => hi) (ss_ok ih h3) hs
        · cases h
      · cases h
    · split at h
      · rename_i x b h1 h2
        cases h
        exact S_whil M.never (ht0 _ _ h1) (ss_ok ih h2)
      · cases h
    · split at h
      · rename_i hl
        obtain ⟨l1, l2⟩ := isLoc_of M hl
        split at h
        · rename_i i w hi hw
          split at h
          · cases h; exact S_aug M.nd (ix_of M hi) l1 l2 (he0 _ _ hw) (.inl ⟨rfl, rfl⟩)
          · cases h; exact S_aug M.nd (ix_of M hi) l1 l2 (he0 _ _ hw) (.inr ⟨rfl, rfl⟩)
          · cases h
        · cases h
      · cases h
    · split at h
      · rename_i hn
        split at h
        · rename_i i ek ea h1 h2 h3
          split at h
          · cases h; exact S_aug1 (cVar_var M h1) (he0 _ _ h2) (he0 _ _ h3) ip_add (fun _ _ _ _ _ => rfl) (aug_sub hn)
          · cases h; exact S_aug1 (cVar_var M h1) (he0 _ _ h2) (he0 _ _ h3) ip_sub (fun _ _ _ _ _ => rfl) (aug_sub hn)
          · cases h
        · cases h
      · cases h
    · split at h
      · rename_i hc
        obtain ⟨rfl, hline, hns⟩ := hc
        split at h
        · rename_i i w hx hw
          cases h
          exact S_app (cVar_var M hx) (he0 _ _ hw) hns hline
        · unfold cPopA at h
          split at h
          · split at h
            · rename_i hc2
              obtain ⟨rfl, hl2, hs2⟩ := hc2
              split at h
              · rename_i t0 i0 ek h1 h2 h3
                cases h
                exact S_popA (cVar_var M h1) (cVar_var M h2) (he0 _ _ h3) hs2 hline hl2
              · cases h
            · cases h
          · cases h
      · split at h
        · rename_i hc
          obtain ⟨rfl, hline, hns⟩ := hc
          split at h
          · rename_i i w hx hw
            cases h
            exact S_ext (cVar_var M hx) (he0 _ _ hw) hns hline
          · cases h
        · cases h
    · split at h
      · rename_i hc
        obtain ⟨⟨rfl, _⟩, hl, hns⟩ := hc
        split at h
        · rename_i i ek ts h1 h2 h3
          cases h
          obtain ⟨q1, q2, q3⟩ := cTgs_ok M h3 fun i hi => hi
          exact S_popD (cVar_var M h1) (he0 _ _ h2) (QG_t M.calm q1 q2 q3) hns hl rfl rfl rfl
        · cases h
      · exact asg_ok M hkind h
    · exact asg_ok M hkind h
    · cases h
end

/-! ### defs -/
/-- a def of the program -/
structure FD where
  name : Str
  ps : List Str
  N : List Str
  params : Arguments
  body : List Stmt
  scope : Scope
  td : List Nat
structure Gs where
  fns : List (Str × (Nat × Nat))
  bl : List Str
  gs : List (Str × D)
  im : List (Str × Value)
  kd : List (Str × List (Str × Int)) := []
def FD.cc (d : FD) (g : Gs) : CC := ⟨d.N, d.scope, [], true, g.fns, g.bl, g.gs, d.td, true, g.im, g.kd⟩
/-- all defs read off -/
def cProg (g : Gs) (ds : List FD) : Option (List Fn) := ds.mapM fun d => cFn (d.cc g) d.ps.length d.body
theorem mapM_get {α β : Type} {f : α → Option β} : ∀ {xs : List α} {ys : List β}, xs.mapM f = some ys → ∀ (i : Nat) (x : α), xs[i]? = some x → ∃ y, ys[i]? = some y ∧ f x = some y
  | [], _, _, _, _, e => by cases e
  | x :: r, ys, h, i, x', e => by
    rw [List.mapM_cons] at h
    cases hx : f x with
    | none => rw [hx] at h; cases h
    | some y =>
      cases hr : r.mapM f with
      | none => rw [hx, hr] at h; cases h
      | some zs =>
        rw [hx, hr] at h
        cases h
        cases i with
        | zero => simp at e; subst e; exact ⟨y, rfl, hx⟩
        | succ i => exact mapM_get hr i x' e
section
variable {P : Program} {w : World} {K : PySem.W.Frag} {mg : Str → Option Value} {base : Heap}
theorem start_get {N : List Str} {vs : List V} {i : Nat} {v : V} (h : vs[i]? = some v) : (L2.start N vs)[i]? = some (some v) := by
  unfold L2.start
  rw [List.getElem?_append_left (by rw [List.length_map]; exact (List.getElem?_eq_some_iff.mp h).1), List.getElem?_map, h]; rfl
theorem fn_ok (g : Gs) (ds : List FD) {fns : List Fn} (fu : Nat) (hp : cProg g ds = some fns) (hbl : ∀ x ∈ g.bl, mg x = none) (hgs : ∀ x d, g.gs.lookup x = some d → ∃ v u, mg x = some u ∧ RelV v u ∧ ∀ b H, Rep K H b v d []) (him : ∀ x v, g.im.lookup x = some v → mg x = some v) (hkd : ∀ x kvs, g.kd.lookup x = some kvs → ∃ p, mg x = some (.ref p) ∧ ∀ z i, kvs.lookup z = some i → KDct K w p z (.int i))
    (fa : Nat → Addr) (fd : Nat → FuncData) (hds : ∀ i d, ds[i]? = some d → FunD K d.name d.name d.params d.body d.scope [] [] (fa i) (fd i) ∧ mg d.name = some (.ref (fa i)) ∧ FnScope d.N d.ps d.scope ∧ Binds K (fd i) d.ps [])
    (hfn : ∀ x f n, g.fns.lookup x = some (f, n) → ∃ d, ds[f]? = some d ∧ d.name = x ∧ d.ps.length = n)
    (hcd : ∀ i d, ds[i]? = some d → ∃ c T, (fd i).code = .ref c ∧ PySem.W.codeHdIn K c T = true ∧ K.lookup T = none ∧ GxR.TabB base mg c T) :
    ∀ (k i : Nat) (d : FD), ds[i]? = some d → FnOk P w K mg base CX0 (2 * k) (fa i) (fd i) d.ps (spF K (callD fns fu k i) d.ps.length) := by
  intro k
  induction k with
  | zero =>
    intro i d _
    exact ⟨fun vs H Q E h => h.1, fun A outer s H args us vs Q E hr he hb hv h => by
      obtain ⟨_, ps, gs, b, dd, _, _, _, e, _⟩ := h
      simp only [callD] at e; cases e⟩
  | succ k ih =>
    intro i d hd
    obtain ⟨F, m, Sc, B⟩ := hds i d hd
    obtain ⟨fn, hfi, hcf⟩ := mapM_get hp i d hd
    unfold cFn at hcf
    split at hcf
    · rename_i hkind
      obtain ⟨ss, hss, rfl⟩ := Option.map_eq_some_iff.mp hcf
      obtain ⟨oc, od, dV, kV, doc, pm, an, cdv, ct, osl, hfd, lk, hcdv, _, _⟩ := F.ex
      obtain ⟨cc0, T0, hcode, hT1, hT2, hTB⟩ := hcd i d hd
      rw [hfd] at lk hcode ⊢
      refine fn_of (k := 2 * k + 1) lk hcdv Sc (fun vs H Q E h => h.1) fun A outer s H vs Q E hr h => ?_
      obtain ⟨hvl, ps, gs, b, dd, ra, tb, dj, e, q⟩ := h
      let X : Cx := (cxOf CX0 P w K mg base d.N d.name d.scope (fa i) cdv A outer s H E).nox
      have M : Mat X (d.cc g) (callD fns fu k) (2 * k) := {
        calm := rfl
        hN := rfl
        nd := Sc.nd
        sc := rfl
        fn := fun _ _ => rfl
        room := hr.mono (Nat.le_succ _)
        code := fun _ => ⟨hr, cc0, T0, hcode, hT1, hT2, hTB⟩
        never := PassesOwn.never
        bl := hbl
        fns := fun x f n hx => by
          obtain ⟨d', h1, h2, h3⟩ := hfn x f n hx
          obtain ⟨F', m', S', B'⟩ := hds f d' h1
          refine ⟨fa f, fd f, d'.ps, by rw [← h2]; exact m', F'.kp, B', by rw [← h3]; exact ih f d' h1, fun ps r hr => ?_⟩
          cases k with
          | zero => simp only [callD] at hr; cases hr
          | succ k =>
            simp only [callD] at hr
            split at hr
            · cases hr
            · rename_i fn' hfn'
              split at hr
              · rename_i hl
                obtain ⟨y, hy, hc⟩ := mapM_get hp f d' h1
                rw [hfn'] at hy
                cases hy
                unfold cFn at hc
                split at hc
                · obtain ⟨_, _, rfl⟩ := Option.map_eq_some_iff.mp hc
                  rw [hl.1, ← h3]
                · cases hc
              · cases hr
        gs := hgs
        im := him
        kd := hkd }
      refine ⟨tS K (exs (callD fns fu k) fu ss), PSs.nox (ss_ok (X := X) (st_ok M hkind (m := 40) 40) hss), ?_⟩
      simp only [callD, hfi] at e
      split at e
      · rename_i hl
        have hpl := ra.len
        have own : ∀ a, Own (ps.map some ++ List.replicate ((d.cc g).N.length - d.ps.length) none) (gs ++ List.replicate ((d.cc g).N.length - d.ps.length) []) a → OwnA ps gs a := fun a ⟨j, d', f, e1, e2, m⟩ => by
          rcases Nat.lt_or_ge j ps.length with z | z
          · rw [List.getElem?_append_left (by rw [List.length_map]; exact z), List.getElem?_map] at e1
            rw [List.getElem?_append_left (by rw [hpl.2]; exact z)] at e2
            obtain ⟨p, hp1, hp2⟩ := Option.map_eq_some_iff.mp e1
            exact ⟨j, d', f, by rw [hp1]; exact hp2, e2, m⟩
          · rw [List.getElem?_append_right (by rw [List.length_map]; exact z), List.getElem?_replicate] at e1
            split at e1 <;> cases e1
        have own2 : ∀ a, OwnA ps gs a → Own (ps.map some ++ List.replicate ((d.cc g).N.length - d.ps.length) none) (gs ++ List.replicate ((d.cc g).N.length - d.ps.length) []) a := fun a ⟨j, d', f, e1, e2, m⟩ => by
          have z := (List.getElem?_eq_some_iff.mp e1).1
          exact ⟨j, d', f, by rw [List.getElem?_append_left (by rw [List.length_map]; exact z), List.getElem?_map, e1]; rfl, by rw [List.getElem?_append_left (by rw [hpl.2]; exact z)]; exact e2, m⟩
        have memφ : ∀ f ∈ gs ++ List.replicate ((d.cc g).N.length - d.ps.length) ([] : List Addr), ∀ a ∈ f, ∃ h ∈ gs, a ∈ h := fun f hf a m => by
          rcases List.mem_append.mp hf with z | z
          · exact ⟨f, z, m⟩
          · rw [List.eq_of_mem_replicate z] at m; cases m
        have env : EnvR K H (L2.start d.N vs) (ps.map some ++ List.replicate ((d.cc g).N.length - d.ps.length) none) (gs ++ List.replicate ((d.cc g).N.length - d.ps.length) []) := by
          refine ⟨?_, ?_, fun j b' d' e1 => ?_, fun f hf a m => ?_, tb⟩
          · unfold L2.start
            simp only [List.length_append, List.length_map, List.length_replicate]
            rw [hvl, hl.1]; rfl
          · simp [hpl.2]
          · rcases Nat.lt_or_ge j ps.length with z | z
            · rw [List.getElem?_append_left (by rw [List.length_map]; exact z), List.getElem?_map] at e1
              obtain ⟨p, hp1, hp2⟩ := Option.map_eq_some_iff.mp e1
              cases hp2
              obtain ⟨v, f, h1, h2, h3⟩ := ra.get j b' d' hp1
              exact ⟨v, f, start_get h1, by rw [List.getElem?_append_left (by rw [hpl.2]; exact z)]; exact h2, h3⟩
            · rw [List.getElem?_append_right (by rw [List.length_map]; exact z), List.getElem?_replicate] at e1
              split at e1 <;> cases e1
          · obtain ⟨h, hh, m'⟩ := memφ f hf a m
            exact ra.trk h hh a m'
        have okk : Okk (ps.map some ++ List.replicate ((d.cc g).N.length - d.ps.length) none) (gs ++ List.replicate ((d.cc g).N.length - d.ps.length) []) := fun j d' f e1 e2 => by
          have z : j < ps.length := by
            rcases Nat.lt_or_ge j ps.length with z | z
            · exact z
            · rw [List.getElem?_append_right (by rw [List.length_map]; exact z), List.getElem?_replicate] at e1
              split at e1 <;> cases e1
          rw [List.getElem?_append_left (by rw [List.length_map]; exact z), List.getElem?_map] at e1
          rw [List.getElem?_append_left (by rw [hpl.2]; exact z)] at e2
          obtain ⟨p, hp1, hp2⟩ := Option.map_eq_some_iff.mp e1
          obtain ⟨q1, q2⟩ := dj j d' f (by rw [hp1]; exact hp2) e2
          refine ⟨q1, fun j2 h hj e3 a m mh => ?_⟩
          rcases Nat.lt_or_ge j2 gs.length with z2 | z2
          · rw [List.getElem?_append_left z2] at e3
            exact q2 j2 h hj e3 a m mh
          · rw [List.getElem?_append_right z2, List.getElem?_replicate] at e3
            split at e3
            · cases e3; cases mh
            · cases e3
        split at e
        · rename_i b' d' ρ' ex
          cases e
          refine ⟨_, _, _, ρ', env, okk, ex, fun H' v gg A' => q v H' gg (fun a o ea no => A'.chg a o ea fun z => no (own a z)) A'.trk A'.rep A'.nd fun a m => ?_⟩
          rcases A'.org a m with z | z | ⟨z, f, hf, mf⟩
          · exact .inl z
          · exact .inr (.inl (own a z))
          · exact .inr (.inr ⟨z, memφ f hf a mf⟩)
        · rename_i ρ' ex
          cases e
          exact ⟨_, _, .next, ρ', env, okk, ex, fun H' σ' φ' A' => q .non H' [] (fun a o ea no => A'.chg a o ea fun z => no (own a z)) A'.trk .non (fun _ => List.nodup_nil) fun a m => nomatch m⟩
        · cases e
      · cases e
    · cases hcf
end
end Den

set_option Elab.async false
set_option linter.all false
set_option maxRecDepth 100000
/-! DenT: a law by what is read off its text. -/
namespace Den
open PySem PySem.Spec PyProof.Rows L2 RZ

def FD.of (st : Stmt) (name : Str) (ps N : List Str) (td : List Nat) : FD := ⟨name, ps, N, defArgs st, defBody st, defScope st, td⟩
def FD.dd (d : FD) : He.DefD := ⟨(d.name, none), d.name, d.name, d.params, d.body, d.scope, [], []⟩
def BindP (d : FD) : Prop := ∀ (kV doc pm : Value) (an : Option Addr) (cdv ct : Value) (us : List Value), us.length = d.ps.length → bindArgs (PySem.W.fnOf d.name d.name d.params d.body d.scope .none kV doc pm an cdv ct) ⟨us, []⟩ = pure (d.ps.zip us)
def AllP (p : FD → Prop) : List FD → Prop
  | [] => True
  | d :: r => p d ∧ AllP p r
theorem AllP.get {p : FD → Prop} : ∀ {ds : List FD} {i : Nat} {d : FD}, AllP p ds → ds[i]? = some d → p d
  | _ :: _, 0, _, h, e => by simp at e; subst e; exact h.1
  | _ :: _, i + 1, _, h, e => AllP.get (i := i) h.2 (by simpa using e)
def fsC (d : FD) : Bool := decide (d.scope.kind = .function) && decide (d.scope.isCoroutine = false) && decide (d.scope.isGenerator = false) && decide d.N.Nodup && decide (d.N.take d.ps.length = d.ps) && (d.ps.all fun x => decide (d.scope.names.lookup x = some .local) || decide (d.scope.names.lookup x = some .cell)) && d.scope.names.all fun y => decide (y.2 ≠ .free)
theorem fsC_ok {d : FD} (h : fsC d = true) : FnScope d.N d.ps d.scope := by
  unfold fsC at h
  simp only [Bool.and_eq_true, decide_eq_true_eq, List.all_eq_true, Bool.or_eq_true] at h
  obtain ⟨⟨⟨⟨⟨⟨h1, h2⟩, h3⟩, h4⟩, h5⟩, h6⟩, h7⟩ := h
  exact ⟨h1, h2, h3, h4, h5, h6, h7⟩
def faC : Str × D → List He.Fa
  | (x, .int i) => [.int x i]
  | (x, .str z) => [.str x z]
  | _ => []
def faOf (g : Gs) (ds : List FD) : List He.Fa := (ds.map fun d => .glo d.name) ++ (g.bl.map .free ++ ((g.gs.map faC).flatten ++ g.kd.map fun p => .glo p.1))
/-- the modules' dicts -/
def tabsOf (g : Gs) : List He.Tab := g.kd.map fun p => ((fun K => He.ga K p.1), p.2.map (·.1))
def okD (kd : List (Str × List (Str × Int))) (K : PySem.W.Frag) : Bool := kd.all fun p => He.valsB K (He.ga K p.1) (p.2.map fun q => (q.1, He.Dv.int q.2))
def gsC (g : Gs) : Bool := g.gs.all fun p => match p.2 with
  | .int _ => true
  | .str _ => true
  | _ => false
def fnsC (g : Gs) (ds : List FD) : Bool := decide (g.fns = (ds.zipIdx.map fun p => (p.1.name, (p.2, p.1.ps.length))))
theorem lookup_mem {α β : Type} [BEq α] [LawfulBEq α] : ∀ {l : List (α × β)} {x : α} {y : β}, l.lookup x = some y → (x, y) ∈ l
  | (a, b) :: r, x, y, h => by
    rw [List.lookup_cons] at h
    split at h
    · rename_i e
      cases h
      have : x = a := by simpa using e
      subst this
      exact List.mem_cons_self
    · exact List.mem_cons_of_mem _ (lookup_mem h)
/-- the defs' code objects and tables -/
def tfOf (ds : List FD) : List He.Defn := ds.map fun d => (d.name, none)
def csOf (ds : List FD) (K : PySem.W.Frag) : List (Addr × Addr) := (tfOf ds).map (He.cT K)
/-- each code object of which K tells has its table in K, or it is a def's -/
def exT (ds : List FD) (K : PySem.W.Frag) : Bool := K.all fun p => !PySem.W.codeHdIn K p.1 (He.tabOf K p.1) || (K.lookup (He.tabOf K p.1)).isSome || (tfOf ds).any fun q => decide (He.cT K q = (p.1, He.tabOf K p.1))
/-- names of other modules' functions -/
def okI (xs : List (Str × Value)) (K : PySem.W.Frag) : Bool := xs.all fun p => He.eqO (PySem.W.nsIn K mainGlobals p.1) (some (some p.2))
def exI (g : Gs) (ds : List FD) (K : PySem.W.Frag) : Bool := exT ds K && (okI g.im K && okD g.kd K)
theorem codeHd_tab {K : PySem.W.Frag} {c T : Addr} (h : PySem.W.codeHdIn K c T = true) : He.tabOf K c = T ∧ ∃ o, (c, o) ∈ K := by
  unfold PySem.W.codeHdIn at h
  split at h
  · rename_i vs _ hk
    simp only [Bool.and_eq_true] at h
    obtain ⟨⟨⟨⟨⟨e1, e2⟩, e3⟩, e4⟩, e5⟩, e6⟩ := h
    refine ⟨?_, _, He.lookup_mem hk⟩
    split at e1
    · rename_i P' h11
      have hP : P' = T := beq_iff_eq.mp e1
      subst hP
      unfold He.tabOf
      rw [hk]
      have : vs.getD 11 .none = .ref P' := by rw [Array.getD_eq_getD_getElem?, h11]; rfl
      simp only [this]
    · cases e1
  · cases h
theorem exT_ok {ds : List FD} {K : PySem.W.Frag} (h : exT ds K = true) {c T : Addr} (hc : PySem.W.codeHdIn K c T = true) (hn : K.lookup T = none) : (c, T) ∈ csOf ds K := by
  obtain ⟨e, o, hm⟩ := codeHd_tab hc
  have := List.all_eq_true.mp h _ hm
  simp only [e, hc, hn, Bool.not_true, Bool.false_or, Option.isSome_none] at this
  obtain ⟨q, hq, e2⟩ := List.any_eq_true.mp this
  exact List.mem_map.mpr ⟨q, hq, of_decide_eq_true e2⟩
section
variable {P : Program} {w : World} {K : PySem.W.Frag} {h : Heap} {mg : Str → Option Value}
theorem den_fn (g : Gs) (ds : List FD) {fns : List Fn} (fu : Nat) (X : K.In h) (G : h.Ns mainGlobals mg) (c : He.SaysD (faOf g ds) (ds.map FD.dd) K) (hcT : ∀ p ∈ tfOf ds, PySem.W.codeHdIn K (He.cT K p).1 (He.cT K p).2 = true) (hoT : ∀ p ∈ tfOf ds, K.lookup (He.cT K p).2 = none) (hp : cProg g ds = some fns) (hsc : ds.all fsC = true) (hb : AllP BindP ds) (hf : fnsC g ds = true) (hgc : gsC g = true) (him : ∀ x v, g.im.lookup x = some v → mg x = some v) (hkd : ∀ x kvs, g.kd.lookup x = some kvs → ∃ p, mg x = some (.ref p) ∧ ∀ z i, kvs.lookup z = some i → KDct K w p z (.int i)) (li : Nat) (dl : FD) (hli : ds[li]? = some dl) (k : Nat) :
    ∃ (fa : Addr) (fd : FuncData), mg dl.name = some (.ref fa) ∧ (∀ (s : Shared) (us : List Value), us.length = dl.ps.length → BindsTo s fd ⟨us, []⟩ (dl.ps.zip us)) ∧ ∀ base : Heap, (∀ p ∈ csOf ds K, GxR.TabB base mg p.1 p.2) → FnOk P w K mg base CX0 (2 * k) fa fd dl.ps (spF K (callD fns fu k li) dl.ps.length) := by
  obtain ⟨fd0, F0⟩ := c.def_ li (d := dl.dd) (by rw [List.getElem?_map, hli]; rfl)
  have hex : ∀ i : Nat, ∃ fd : FuncData, ∀ d, ds[i]? = some d → FunD K d.name d.name d.params d.body d.scope [] [] (He.ga K d.name) fd := fun i => by
    cases hd : ds[i]? with
    | none => exact ⟨fd0, fun d e => by cases e⟩
    | some d =>
      obtain ⟨fd, F⟩ := c.def_ i (d := d.dd) (by rw [List.getElem?_map, hd]; rfl)
      exact ⟨fd, fun d' e => by cases e; exact F⟩
  obtain ⟨fd, hfd⟩ := Classical.axiomOfChoice hex
  have glo : ∀ (i : Nat) (d : FD), ds[i]? = some d → mg d.name = some (.ref (He.ga K d.name)) := fun i d e => by
    refine He.glo_ok X G (c.fact i (f := .glo d.name) ?_)
    unfold faOf
    rw [List.getElem?_append_left (by rw [List.length_map]; exact (List.getElem?_eq_some_iff.mp e).1), List.getElem?_map, e]; rfl
  have memF : ∀ f ∈ faOf g ds, f.ok K = true := fun f hm => by
    obtain ⟨i, hi⟩ := List.getElem?_of_mem hm
    exact c.fact i hi
  have hbl : ∀ x ∈ g.bl, mg x = none := fun x hx => He.free_ok X G (memF _ (List.mem_append_right _ (List.mem_append_left _ (List.mem_map_of_mem hx))))
  have hgs : ∀ x d, g.gs.lookup x = some d → ∃ v u, mg x = some u ∧ RelV v u ∧ ∀ b H, Rep K H b v d [] := fun x d e => by
    have hm := lookup_mem e
    have hk := List.all_eq_true.mp hgc _ hm
    have hfm : ∀ f ∈ faC (x, d), f.ok K = true := fun f hfm => memF f (List.mem_append_right _ (List.mem_append_right _ (List.mem_append_left _ (List.mem_flatten.mpr ⟨_, List.mem_map_of_mem hm, hfm⟩))))
    cases d with
    | int i =>
      obtain ⟨t, ht⟩ := He.int_ok X G (hfm (.int x i) (List.mem_singleton_self _))
      exact ⟨.int i, _, ht, ⟨t, rfl⟩, fun b H => .int i⟩
    | str z =>
      obtain ⟨t, ht⟩ := He.str_ok X G (hfm (.str x z) (List.mem_singleton_self _))
      exact ⟨.str z, _, ht, ⟨t, rfl⟩, fun b H => .str z⟩
    | _ => cases hk
  have hfn : ∀ x f n, g.fns.lookup x = some (f, n) → ∃ d, ds[f]? = some d ∧ d.name = x ∧ d.ps.length = n := fun x f n e => by
    have hm := lookup_mem e
    rw [of_decide_eq_true hf] at hm
    obtain ⟨p, hp, e2⟩ := List.mem_map.mp hm
    obtain ⟨d, j⟩ := p
    simp only [Prod.mk.injEq] at e2
    obtain ⟨rfl, rfl, rfl⟩ := e2
    have := List.mem_zipIdx_iff_getElem?.mp hp
    exact ⟨d, this, rfl, rfl⟩
  have all : ∀ (i : Nat) (d : FD), ds[i]? = some d → FunD K d.name d.name d.params d.body d.scope [] [] (He.ga K (ds.getD i dl).name) (fd i) ∧ mg d.name = some (.ref (He.ga K (ds.getD i dl).name)) ∧ FnScope d.N d.ps d.scope ∧ Binds K (fd i) d.ps [] := fun i d e => by
    have e2 : ds.getD i dl = d := by rw [List.getD_eq_getElem?_getD, e]; rfl
    rw [e2]
    have F := hfd i d e
    exact ⟨F, glo i d e, fsC_ok (List.all_eq_true.mp hsc d (List.mem_of_getElem? e)), F.bindsN (hb.get e)⟩
  have e2 : ds.getD li dl = dl := by rw [List.getD_eq_getElem?_getD, hli]; rfl
  refine ⟨He.ga K dl.name, fd li, glo li dl hli, (hfd li dl hli).bindsA (hb.get hli), fun base hTB => ?_⟩
  have hcd : ∀ i d, ds[i]? = some d → ∃ c T, (fd i).code = .ref c ∧ PySem.W.codeHdIn K c T = true ∧ K.lookup T = none ∧ GxR.TabB base mg c T := fun i d e => by
    obtain ⟨oc, od, dV, kV, doc, pm, an, cdv, ct, osl, hfd', lk, hcdv, _, _⟩ := (hfd i d e).ex
    obtain ⟨cc0, rfl⟩ := He.codeIn_ref hcdv
    have hco : (fd i).code = .ref cc0 := by rw [hfd']
    have hm : (d.name, (none : Option Str)) ∈ tfOf ds := List.mem_map.mpr ⟨d, List.mem_of_getElem? e, rfl⟩
    have ec : He.codeOf K (d.name, none) = cc0 := He.codeOf_eq (p := (d.name, none)) lk hco
    refine ⟨cc0, (He.cT K (d.name, none)).2, hco, ?_, hoT _ hm, ?_⟩
    · have := hcT _ hm
      rw [← ec]; exact this
    · have := hTB _ (List.mem_map.mpr ⟨_, hm, rfl⟩)
      rw [← ec]; exact this
  have := fn_ok (P := P) (w := w) (base := base) g ds fu hp hbl hgs him hkd (fun i => He.ga K (ds.getD i dl).name) fd all hfn hcd k li dl hli
  rw [e2] at this
  exact this
/-- the same from a script that is not yet locked -/
def spL (K : PySem.W.Frag) (cal : List (Bool × D) → Option (Bool × D)) : Sp := fun vs H Q E => spF K cal 1 vs H Q E ∨ ∃ a xs, vs = [.ref a] ∧ H a = some (.lst xs) ∧ ∀ ob, spF K cal 1 [.ref a] (upd H a (.frz ob (.lst xs))) Q E
theorem fn_L {base : Heap} {k : Nat} {f : Addr} {fd : FuncData} {x : Str} {cal : List (Bool × D) → Option (Bool × D)} (F : FnOk P w K mg base CX0 k f fd [x] (spF K cal 1)) : FnOk P w K mg base CX0 k f fd [x] (spL K cal) := by
  refine ⟨fun vs H Q E h => ?_, fun A outer s H args us vs Q E hr e0 hb hv hs => ?_⟩
  · rcases h with h | ⟨a, xs, rfl, _, _⟩
    · exact h.1
    · rfl
  · rcases hs with hs | ⟨a, xs, rfl, ha, q⟩
    · exact F.run A outer s H args us vs Q E hr e0 hb hv hs
    · have oka := e0.hok a _ ha
      obtain ⟨hz, its, n, rv, eo⟩ := id oka
      generalize ho : ({ cls := .type "list", data := .seq its.toArray n } : Obj) = o at eo
      have ne : ∀ b u, H b = some u → (∀ ys, u ≠ .lst ys) → b ≠ a := fun b u e h z => by
        rw [z, ha] at e
        cases e
        exact h _ rfl
      have nn : ∀ b, H b = none → b ≠ a := fun b e z => by rw [z, ha] at e; cases e
      have st : ∀ {b : Addr} {u : HO}, ObjOk P w H s.heap b u → ObjOk P w (upd H a (.frz o (.lst xs))) s.heap b u := fun {b u} x =>
        x.stay (fun _ _ _ e => e) (fun c e => by rw [upd_ne (ne c _ e fun _ z => nomatch z)]; exact e) fun c ys e => by rw [upd_ne (ne c _ e fun _ z => nomatch z)]; exact e
      have hok2 : HOk P w (upd H a (.frz o (.lst xs))) s.heap := fun b u e => by
        by_cases hb : b = a
        · subst hb
          rw [upd_same] at e
          cases e
          exact ⟨eo, st oka⟩
        · rw [upd_ne hb] at e
          exact st (e0.hok b u e)
      have e02 : Env0 P w K mg base A outer s (upd H a (.frz o (.lst xs))) := ⟨e0.frames, e0.mod, fun b u e => ⟨(e0.bs b u e).1, by rw [upd_ne (nn b (e0.bs b u e).2)]; exact (e0.bs b u e).2⟩, e0.bsz, e0.funs, fun b hb => by rw [upd_ne (nn b (e0.frf b hb))]; exact e0.frf b hb, hok2, e0.bare⟩
      refine codeAny_mono (F.run A outer s _ args us _ Q E hr e02 hb hv (q o)) fun r s' h => ?_
      cases r with
      | error e => exact False.elim h
      | ok fl =>
        cases fl with
        | next => exact False.elim h
        | brk => exact False.elim h
        | cont => exact False.elim h
        | ret u =>
          obtain ⟨v, H', os, bare, un, hok', r', qq⟩ := h
          have k1 : ∀ b, H b = none → upd H a (.frz o (.lst xs)) b = none := fun b e => by rw [upd_ne (nn b e)]; exact e
          exact ⟨v, H', os, bare, ⟨fun b ob e n => un.keep b ob e (k1 b n), fun b ob e n => un.slot b ob e (k1 b n), fun b ob e n => un.free b ob e (k1 b n), un.there,
            fun b ys e => un.tups b ys (by rw [upd_ne (ne b _ e fun _ z => nomatch z)]; exact e), fun b ob y e => un.frzs b ob y (by rw [upd_ne (ne b _ e fun _ z => nomatch z)]; exact e), fun b ps e => un.tbls b ps (by rw [upd_ne (ne b _ e fun _ z => nomatch z)]; exact e)⟩, hok', r', qq⟩
/-- the law's own wish -/
theorem den_law {n : Nat} {ds : List FD} {cal : List (Bool × D) → Option (Bool × D)} (hl : ∀ ns : List Int, ns.length ≤ n → cal [(false, scrD ns)] = some (true, .bool true)) (hex : exT ds K = true) (H : Hp) (a : Addr) (ns : List Int) (hn : ns.length ≤ n) (hT : ∀ p ∈ csOf ds K, H p.2 = some (.tbl #[])) (hs : SqL K H a (ns.map V.int)) :
    spL K cal [.ref a] H (fun v _ => v = .bl true) fun _ _ _ => False := by
  have fin : ∀ H : Hp, (∀ p ∈ csOf ds K, H p.2 = some (.tbl #[])) → ScrAt K H a (ns.map V.int) → spF K cal 1 [.ref a] H (fun v _ => v = .bl true) fun _ _ _ => False := fun H hT sa =>
    ⟨rfl, [(false, scrD ns)], [[]], true, .bool true, .cons (.scr rfl sa) .nil, fun c T h1 h2 => ⟨#[], hT _ (exT_ok hex h1 h2), trivial⟩, fun i d f e _ => by
      cases i with
      | zero => simp at e
      | succ i => simp at e, hl ns hn, fun v H' g _ _ r _ _ => r.bo.1⟩
  rcases hs with (h | ⟨o, h⟩) | h
  · refine .inr ⟨a, _, rfl, h, fun ob => fin _ (fun p hp => ?_) (.inl ⟨ob, upd_same⟩)⟩
    rw [upd_ne (fun z => by have := hT p hp; rw [z, h] at this; cases this)]
    exact hT p hp
  · exact .inl (fin H hT (.inl ⟨o, h⟩))
  · exact .inl (fin H hT (.inr h))
/-- a law's end -/
theorem den_at {l : PySem.W.OpenLaw} (g : Gs) (ds : List FD) {fns : List Fn} {fa : Addr} (c : He.SaysX (faOf g ds) (ds.map FD.dd) (tabsOf g) (tfOf ds) (exI g ds) w h K) (X : K.In h) (G : h.Ns mainGlobals mg) (hfa : mg ("law" : Str) = some (.ref fa)) (hp : cProg g ds = some fns) (hsc : ds.all fsC = true) (hb : AllP BindP ds) (hf : fnsC g ds = true) (hgc : gsC g = true) (li : Nat) (dl : FD) (hli : ds[li]? = some dl) (hname : dl.name = "law") (hps : dl.ps = [("script" : Str)])
    (k n : Nat) (hlaw : ∀ ns : List Int, ns.length ≤ n → callD fns 1000 k li [(false, scrD ns)] = some (true, .bool true)) : LamX.LawAtS l w K CX0 (2 * k) n "script" mg fa h := by
  obtain ⟨more1, more2⟩ := Bool.and_eq_true_iff.mp c.more
  obtain ⟨more2, more3⟩ := Bool.and_eq_true_iff.mp more2
  have him : ∀ x v, g.im.lookup x = some v → mg x = some v := fun x v e => PySem.W.mg_of X G (He.eqO_ok (List.all_eq_true.mp more2 _ (lookup_mem e)))
  have hkd : ∀ x kvs, g.kd.lookup x = some kvs → ∃ p, mg x = some (.ref p) ∧ ∀ z i, kvs.lookup z = some i → KDct K w p z (.int i) := fun x kvs e => by
    have hm := lookup_mem e
    have hg : mg x = some (.ref (He.ga K x)) := by
      refine He.glo_ok X G ?_
      obtain ⟨i, hi⟩ := List.getElem?_of_mem (show He.Fa.glo x ∈ faOf g ds from List.mem_append_right _ (List.mem_append_right _ (List.mem_append_right _ (List.mem_map.mpr ⟨_, hm, rfl⟩))))
      exact c.t.d.fact i hi
    obtain ⟨j, hj⟩ := List.getElem?_of_mem hm
    obtain ⟨es, n, D⟩ := c.t.tab j (t := ((fun K => He.ga K x), kvs.map (·.1))) (by unfold tabsOf; rw [List.getElem?_map, hj]; rfl)
    refine ⟨_, hg, fun z i hz => ?_⟩
    obtain ⟨u, h1, h2⟩ := He.valsB_ok (List.all_eq_true.mp more3 _ hm) (q := (z, He.Dv.int i)) (List.mem_map.mpr ⟨(z, i), lookup_mem hz, rfl⟩)
    exact ⟨es, n, u, D.at_, D.lit, h1, h2⟩
  obtain ⟨f2, fd, hm, hbd, hF⟩ := den_fn (P := l.prog) (w := w) g ds 1000 X G c.t.d c.hd c.out hp hsc hb hf hgc him hkd li dl hli k
  rw [hname] at hm
  have e := hfa.symm.trans hm
  cases e
  rw [hps] at hF hbd
  refine ⟨fd, csOf ds K, spL K (callD fns 1000 k li), fun p hp => ?_, fun p hp => ?_, fun p hp => ?_, fun s u => hbd s [u] rfl, fun H a ns hn _ hT hs => den_law hlaw more1 H a ns hn hT hs, fun base _ _ hTB => fn_L (hF base fun p hp => let t := hTB p hp; ⟨t.code, t.bm, t.gP⟩)⟩
  · obtain ⟨q, hq, rfl⟩ := List.mem_map.mp hp
    exact c.empty q hq
  · obtain ⟨q, hq, rfl⟩ := List.mem_map.mp hp
    exact c.out q hq
  · obtain ⟨q, hq, rfl⟩ := List.mem_map.mp hp
    exact PySem.W.codeHd_of_K X (c.hd q hq)
end
end Den

set_option Elab.async false
set_option linter.all false
set_option maxRecDepth 100000
/-! DenU: the operations at ints, at tuples of ints, at places that are natural numbers; comprehensions and loops in closed form. -/
namespace Den
open PySem PySem.Spec PyProof.Rows L2

/-- a tuple of ints -/
def tZ (l : List Int) : D := .tuple (l.map .int)
theorem fzs_all : ∀ (xs : List D), (∀ x ∈ xs, fz x = true) → fzs xs = true
  | [], _ => rfl
  | x :: r, h => by
    rw [fzs, h x (List.mem_cons_self ..), fzs_all r fun y hy => h y (List.mem_cons_of_mem _ hy)]
    rfl
@[simp] theorem fzs_map {α : Type} (f : α → D) (l : List α) (h : ∀ x, fz (f x) = true) : fzs (l.map f) = true := fzs_all _ fun x hx => by
  obtain ⟨y, _, rfl⟩ := List.mem_map.mp hx
  exact h y
@[simp] theorem fz_i (i : Int) : fz (.int i) = true := rfl
@[simp] theorem fz_s (i : Str) : fz (.str i) = true := rfl
@[simp] theorem fz_b (i : Bool) : fz (.bool i) = true := rfl
@[simp] theorem fz_n : fz .none = true := rfl
@[simp] theorem fzs_ints (l : List Int) : fzs (l.map .int) = true := fzs_map _ _ fun _ => rfl
@[simp] theorem fz_tZ (l : List Int) : fz (tZ l) = true := by rw [tZ, fz, fzs_ints]
@[simp] theorem fzs_tZs (L : List (List Int)) : fzs (L.map tZ) = true := fzs_map _ _ fz_tZ
@[simp] theorem boolsD_map : ∀ (l : List Bool), boolsD (l.map .bool) = some l
  | [] => rfl
  | x :: r => by
    show (boolsD (r.map .bool)).map (x :: ·) = _
    rw [boolsD_map r]
    rfl
theorem bool_T {α : Type} (g : α → Bool) : ∀ (L : List α), boolsD (L.map fun a => .bool (g a)) = some (L.map g)
  | [] => rfl
  | x :: r => by
    show (boolsD (r.map fun a => .bool (g a))).map (g x :: ·) = _
    rw [bool_T g r]
    rfl
theorem all_true {α : Type} (L : List α) (p : Bool) : biD .all [(p, .list (L.map fun _ => .bool true))] = some (true, .bool true) := by
  simp only [biD, bool_T (fun _ => true) L, Option.map_some]
  simp
theorem canAll : ∀ (xs : List D), (∀ x ∈ xs, x.canLay0 = true) → PyData.canLayAll0 xs = true
  | [], _ => rfl
  | x :: r, h => by
    rw [PyData.canLayAll0, h x (List.mem_cons_self ..), canAll r fun y hy => h y (List.mem_cons_of_mem _ hy)]
    rfl
theorem depAll {n : Nat} : ∀ (xs : List D), (∀ x ∈ xs, x.depth ≤ n) → PyData.depthAll xs ≤ n
  | [], _ => Nat.zero_le _
  | x :: r, h => by
    rw [PyData.depthAll]
    exact Nat.max_le.mpr ⟨h x (List.mem_cons_self ..), depAll r fun y hy => h y (List.mem_cons_of_mem _ hy)⟩
/-- plain at most n deep -/
def shp (n : Nat) (x : D) : Prop := x.canLay0 = true ∧ x.depth ≤ n
theorem shp_list {n : Nat} {xs : List D} (h : ∀ x ∈ xs, shp n x) : shp (n + 1) (.list xs) := ⟨by rw [PyData.canLay0]; exact canAll _ fun x hx => (h x hx).1, by rw [PyData.depth]; exact Nat.succ_le_succ (depAll _ fun x hx => (h x hx).2)⟩
theorem shp_tup {n : Nat} {xs : List D} (h : ∀ x ∈ xs, shp n x) : shp (n + 1) (.tuple xs) := ⟨by rw [PyData.canLay0]; exact canAll _ fun x hx => (h x hx).1, by rw [PyData.depth]; exact Nat.succ_le_succ (depAll _ fun x hx => (h x hx).2)⟩
theorem shp_int (n : Nat) (i : Int) : shp n (.int i) := ⟨rfl, Nat.zero_le _⟩
theorem shp_bool (n : Nat) (i : Bool) : shp n (.bool i) := ⟨rfl, Nat.zero_le _⟩
theorem shp_none (n : Nat) : shp n .none := ⟨rfl, Nat.zero_le _⟩
theorem shp_ints {n : Nat} {l : List Int} : ∀ x ∈ l.map PyData.int, shp n x := fun x hx => by
  obtain ⟨y, _, rfl⟩ := List.mem_map.mp hx
  exact shp_int n y
theorem shp_tZ (n : Nat) (l : List Int) : shp (n + 1) (tZ l) := shp_tup shp_ints
theorem shp_map {α : Type} {n : Nat} {f : α → D} {l : List α} (h : ∀ x, shp n (f x)) : ∀ x ∈ l.map f, shp n x := fun x hx => by
  obtain ⟨y, _, rfl⟩ := List.mem_map.mp hx
  exact h y
theorem shp_sh {n : Nat} {x : D} (h : shp n x) (hn : n ≤ 64) : SeqAt.shaped x = true := by
  rw [SeqAt.shaped, h.1, decide_eq_true (Nat.le_trans h.2 hn)]
  rfl
@[simp] theorem sh_int (i : Int) : SeqAt.shaped (.int i) = true := shp_sh (shp_int 0 i) (by decide)
@[simp] theorem sh_ints (l : List Int) : SeqAt.shaped (.list (l.map .int)) = true := shp_sh (shp_list (n := 0) shp_ints) (by decide)
@[simp] theorem sh_tints (l : List Int) : SeqAt.shaped (.tuple (l.map .int)) = true := shp_sh (shp_tup (n := 0) shp_ints) (by decide)
@[simp] theorem sh_tZ (l : List Int) : SeqAt.shaped (tZ l) = true := sh_tints l
@[simp] theorem sh_tZs (l : List (List Int)) : SeqAt.shaped (.list (l.map tZ)) = true := shp_sh (shp_list (n := 1) (shp_map (shp_tZ 0))) (by decide)
@[simp] theorem sh_ttZs (l : List (List Int)) : SeqAt.shaped (.tuple (l.map tZ)) = true := shp_sh (shp_tup (n := 1) (shp_map (shp_tZ 0))) (by decide)

theorem eqvAll_map {α : Type} [DecidableEq α] {f : α → D} (h : ∀ x y, PyData.eqv (f x) (f y) = decide (x = y)) : ∀ (a b : List α), PyData.eqvAll (a.map f) (b.map f) = decide (a = b)
  | [], [] => rfl
  | [], _ :: _ => by simp [PyData.eqvAll]
  | _ :: _, [] => by simp [PyData.eqvAll]
  | x :: a, y :: b => by
    show PyData.eqvAll (f x :: a.map f) (f y :: b.map f) = _
    rw [PyData.eqvAll, h, eqvAll_map h a b]
    simp
theorem eqv_int (x y : Int) : PyData.eqv (.int x) (.int y) = decide (x = y) := by
  rw [PyData.eqv]
  by_cases h : x = y <;> simp [h]
theorem eqv_tZ (x y : List Int) : PyData.eqv (tZ x) (tZ y) = decide (x = y) := by
  rw [tZ, tZ, PyData.eqv, eqvAll_map eqv_int]
theorem any_eqv {α : Type} [DecidableEq α] {f : α → D} (h : ∀ x y, PyData.eqv (f x) (f y) = decide (x = y)) (t : α) (l : List α) : (l.map f).any (fun z => PyData.eqv z (f t)) = decide (t ∈ l) := by
  induction l with
  | nil => simp
  | cons x r ih =>
    rw [List.map_cons, List.any_cons, ih, h]
    by_cases e : x = t
    · simp [e]
    · have : ¬ t = x := fun z => e z.symm
      simp [e, this]
theorem in_ints (t : Int) (l : List Int) : inD (.int t) (l.map .int) = some (decide (t ∈ l)) := by
  unfold inD
  rw [sh_int, sh_ints, any_eqv eqv_int]
  rfl
theorem in_tZs (t : List Int) (l : List (List Int)) : inD (tZ t) (l.map tZ) = some (decide (t ∈ l)) := by
  unfold inD
  rw [sh_tZ, sh_tZs, any_eqv eqv_tZ]
  simp
theorem eq_ints (a b : List Int) : eqD (.list (a.map .int)) (.list (b.map .int)) = some (decide (a = b)) := by
  unfold eqD
  simp only [sh_ints, Bool.and_self, if_true, PyData.eqv, eqvAll_map eqv_int]
theorem eq_tZ (a b : List Int) : eqD (tZ a) (tZ b) = some (decide (a = b)) := by
  unfold eqD tZ
  simp only [sh_tints, Bool.and_self, if_true, PyData.eqv, eqvAll_map eqv_int]
theorem atI_nat {α : Type} (xs : List α) (i : Nat) : atI xs (i : Int) = xs[i]? := by
  unfold atI ixN
  by_cases h : i < xs.length
  · simp [h]
  · simp [h, List.getElem?_eq_none (Nat.le_of_not_lt h)]
theorem ixN_nat {n i : Nat} (h : i < n) : ixN n (i : Int) = some i := by
  unfold ixN
  simp [h]
theorem ix_tup {xs : List D} {x : D} {i : Nat} (h : xs[i]? = some x) : ixD (.tuple xs) (.int (i : Int)) = some (fz x, x) := by
  simp [ixD, atI_nat, h]
theorem ix_list {xs : List D} {x : D} {i : Nat} (h : xs[i]? = some x) : ixD (.list xs) (.int (i : Int)) = some (fz x, x) := by
  simp [ixD, atI_nat, h]
theorem cut_nn {α : Type} (xs : List α) (a b : Nat) : cutD xs (some (a : Int)) (some (b : Int)) = (xs.drop a).take (b - a) := by
  unfold cutD
  rw [HT.sIx_nat, HT.sIx_nat]
  apply List.ext_getElem?
  intro i
  simp only [List.getElem?_take, List.getElem?_drop]
  by_cases h : i < b - a ∧ a + i < xs.length
  · rw [if_pos (by omega), if_pos h.1, show min a xs.length + i = a + i by omega]
  · by_cases h1 : i < b - a
    · rw [if_pos h1, List.getElem?_eq_none (i := a + i) (by omega)]
      split
      · rw [List.getElem?_eq_none (by omega)]
      · rfl
    · rw [if_neg h1, if_neg (by omega)]
theorem cut_n0 {α : Type} (xs : List α) (a : Nat) : cutD xs (some (a : Int)) none = xs.drop a := by
  unfold cutD
  rw [HT.sIx_nat, HT.sIx_none]
  apply List.ext_getElem?
  intro i
  simp only [List.getElem?_take, List.getElem?_drop]
  by_cases h : a + i < xs.length
  · rw [if_pos (by omega), show min a xs.length + i = a + i by omega]
  · rw [if_neg (by omega), List.getElem?_eq_none (by omega)]
theorem cut_0n {α : Type} (xs : List α) (b : Nat) : cutD xs none (some (b : Int)) = xs.take b := by
  have := cut_nn xs 0 b
  rw [List.drop_zero, Nat.sub_zero] at this
  rw [← this]
  unfold cutD
  rw [HT.sIx_none, HT.sIx_nat, HT.sIx_nat, Nat.zero_min]
theorem enm_get {xs : List D} {j : Nat} {d : D} (h : (enmD xs)[j]? = some d) : ∃ x, xs[j]? = some x ∧ d = .tuple [.int j, x] := by
  unfold enmD at h
  rw [List.getElem?_map, List.getElem?_zipIdx] at h
  cases hx : xs[j]? with
  | none => simp [hx] at h
  | some x =>
    simp [hx] at h
    exact ⟨x, rfl, h.symm⟩
@[simp] theorem enm_len (xs : List D) : (enmD xs).length = xs.length := by simp [enmD]
theorem rng_nat (a b : Nat) : rngD a b = (List.range (b - a)).map fun (i : Nat) => PyData.int ((a + i : Nat) : Int) := by
  unfold rngD
  rw [show ((b : Int) - (a : Int)).toNat = b - a by omega]
  simp
theorem rng_0 (n : Nat) : rngD 0 n = (List.range n).map fun (i : Nat) => PyData.int (i : Int) := by
  unfold rngD
  simp
theorem rng_get {n j : Nat} {d : D} (h : (rngD 0 n)[j]? = some d) : j < n ∧ d = .int (j : Int) := by
  rw [rng_0, List.getElem?_map] at h
  obtain ⟨y, hy, e⟩ := Option.map_eq_some_iff.mp h
  obtain ⟨h1, h2⟩ := List.getElem?_eq_some_iff.mp hy
  rw [List.length_range] at h1
  rw [List.getElem_range] at h2
  subst h2
  exact ⟨h1, e.symm⟩
@[simp] theorem rng_len (n : Nat) : (rngD 0 n).length = n := by rw [rng_0]; simp

/-! ### comprehensions -/
theorem lcD_filt {st : D → Ev → Option Ev} {te el : Ev → Option (Bool × D)} {ρ : Ev} {p : D → Bool} {g : D → Bool × D} : ∀ {xs : List D}, (∀ x ∈ xs, ∃ ρ' o, st x ρ = some ρ' ∧ te ρ' = some (o, .bool (p x)) ∧ (p x = true → el ρ' = some (g x))) → lcD st te el ρ xs = some ((xs.filter p).map g)
  | [], _ => rfl
  | x :: r, h => by
    obtain ⟨ρ', o, h1, h2, h3⟩ := h x (List.mem_cons_self ..)
    have ih := lcD_filt fun y hy => h y (List.mem_cons_of_mem _ hy)
    cases hp : p x with
    | true => simp only [lcD, h1, h2, h3 hp, hp, ih, Option.map_some, List.filter_cons, if_true, List.map_cons]
    | false => simp only [lcD, h1, h2, hp, ih, List.filter_cons, Bool.false_eq_true, if_false]
/-- a comprehension without a filter -/
theorem lc_map {cal : Nat → List (Bool × D) → Option (Bool × D)} {elt : E} {t : T} {src : I} {own : List Nat} {ρ : Ev} {f : Bool} {xs : List D} {g : D → Bool × D} (hs : evi cal src ρ = some (f, xs)) (hl : xs.length ≤ lim) (h : ∀ x ∈ xs, ∃ ρ', setT t false x (wipeE ρ own) = some ρ' ∧ ev cal elt false ρ' = some (g x)) :
    ev cal (.lc elt t src .no own) false ρ = some ((xs.map g).all (·.1), .list ((xs.map g).map (·.2))) := by
  have this := lcD_filt (st := fun d ρ => setT t false d ρ) (te := fun ρ => evt cal .no ρ) (el := fun ρ => ev cal elt false ρ) (ρ := wipeE ρ own) (p := fun _ => true) (g := g) (xs := xs) fun x hx => by
    obtain ⟨ρ', h1, h2⟩ := h x hx
    exact ⟨ρ', true, h1, by simp only [evt], fun _ => h2⟩
  have e : xs.filter (fun _ => true) = xs := by simp
  rw [e] at this
  simp only [ev, hs, this, fin, if_pos hl, Bool.false_eq_true, if_false]
/-- a comprehension with a filter -/
theorem lc_filt {cal : Nat → List (Bool × D) → Option (Bool × D)} {elt c : E} {t : T} {src : I} {own : List Nat} {ρ : Ev} {f : Bool} {xs : List D} {p : D → Bool} {g : D → Bool × D} (hs : evi cal src ρ = some (f, xs)) (hl : xs.length ≤ lim) (h : ∀ x ∈ xs, ∃ ρ' o, setT t false x (wipeE ρ own) = some ρ' ∧ ev cal c true ρ' = some (o, .bool (p x)) ∧ (p x = true → ev cal elt false ρ' = some (g x))) :
    ev cal (.lc elt t src (.so c) own) false ρ = some (((xs.filter p).map g).all (·.1), .list (((xs.filter p).map g).map (·.2))) := by
  have this := lcD_filt (st := fun d ρ => setT t false d ρ) (te := fun ρ => evt cal (.so c) ρ) (el := fun ρ => ev cal elt false ρ) (ρ := wipeE ρ own) (p := p) (g := g) (xs := xs) fun x hx => by
    obtain ⟨ρ', o, h1, h2, h3⟩ := h x hx
    exact ⟨ρ', o, h1, by simp only [evt]; exact h2, h3⟩
  simp only [ev, hs, this, fin, if_pos hl, Bool.false_eq_true, if_false]

/-- typed items: what they are and what they give -/
theorem lcD_T {α : Type} {enc val : α → D} {p : α → Bool} {st : D → Ev → Option Ev} {te el : Ev → Option (Bool × D)} {ρ : Ev} : ∀ {L : List α}, (∀ a ∈ L, ∃ ρ' o, st (enc a) ρ = some ρ' ∧ te ρ' = some (o, .bool (p a)) ∧ (p a = true → el ρ' = some (true, val a))) → lcD st te el ρ (L.map enc) = some ((L.filter p).map fun a => (true, val a))
  | [], _ => rfl
  | a :: r, h => by
    obtain ⟨ρ', o, h1, h2, h3⟩ := h a (List.mem_cons_self ..)
    have ih := lcD_T (L := r) fun b hb => h b (List.mem_cons_of_mem _ hb)
    cases hp : p a with
    | true => simp only [List.map_cons, lcD, h1, h2, h3 hp, hp, ih, Option.map_some, List.filter_cons, if_true]
    | false => simp only [List.map_cons, lcD, h1, h2, hp, ih, List.filter_cons, Bool.false_eq_true, if_false]
theorem all_T {α : Type} (val : α → D) (L : List α) : (L.map fun a => (true, val a)).all (fun x => x.1) = true := by simp
theorem snd_T {α : Type} (val : α → D) (L : List α) : (L.map fun a => (true, val a)).map (fun x => x.2) = L.map val := by simp
theorem lc_T {α : Type} {enc val : α → D} {L : List α} {cal : Nat → List (Bool × D) → Option (Bool × D)} {elt : E} {t : T} {src : I} {own : List Nat} {ρ : Ev} {f : Bool} (hs : evi cal src ρ = some (f, L.map enc)) (hl : L.length ≤ lim) (h : ∀ a ∈ L, ∃ ρ', setT t false (enc a) (wipeE ρ own) = some ρ' ∧ ev cal elt false ρ' = some (true, val a)) :
    ev cal (.lc elt t src .no own) false ρ = some (true, .list (L.map val)) := by
  have this := lcD_T (enc := enc) (val := val) (st := fun d ρ => setT t false d ρ) (te := fun ρ => evt cal .no ρ) (el := fun ρ => ev cal elt false ρ) (ρ := wipeE ρ own) (p := fun _ => true) (L := L) fun x hx => by
    obtain ⟨ρ', h1, h2⟩ := h x hx
    exact ⟨ρ', true, h1, by simp only [evt], fun _ => h2⟩
  have e : L.filter (fun _ => true) = L := by simp
  have hl2 : (L.map enc).length ≤ lim := by rw [List.length_map]; exact hl
  rw [e] at this
  simp only [ev, hs, this, fin, if_pos hl2, Bool.false_eq_true, if_false, all_T, snd_T]
theorem lc_TF {α : Type} {enc val : α → D} {p : α → Bool} {L : List α} {cal : Nat → List (Bool × D) → Option (Bool × D)} {elt c : E} {t : T} {src : I} {own : List Nat} {ρ : Ev} {f : Bool} (hs : evi cal src ρ = some (f, L.map enc)) (hl : L.length ≤ lim) (h : ∀ a ∈ L, ∃ ρ' o, setT t false (enc a) (wipeE ρ own) = some ρ' ∧ ev cal c true ρ' = some (o, .bool (p a)) ∧ (p a = true → ev cal elt false ρ' = some (true, val a))) :
    ev cal (.lc elt t src (.so c) own) false ρ = some (true, .list ((L.filter p).map val)) := by
  have this := lcD_T (enc := enc) (val := val) (st := fun d ρ => setT t false d ρ) (te := fun ρ => evt cal (.so c) ρ) (el := fun ρ => ev cal elt false ρ) (ρ := wipeE ρ own) (p := p) (L := L) fun x hx => by
    obtain ⟨ρ', o, h1, h2, h3⟩ := h x hx
    exact ⟨ρ', o, h1, by simp only [evt]; exact h2, h3⟩
  have hl2 : (L.map enc).length ≤ lim := by rw [List.length_map]; exact hl
  simp only [ev, hs, this, fin, if_pos hl2, Bool.false_eq_true, if_false, all_T, snd_T]

theorem lc2D_flat {st st1 : D → Ev → Option Ev} {src1 : Ev → Option (Bool × List D)} {el : Ev → Option (Bool × D)} {w1 : Ev → Ev} {ρ : Ev} {ys : D → List D} {g : D → Bool × D} : ∀ {xs : List D}, (∀ x ∈ xs, ∃ ρ' f, st x ρ = some ρ' ∧ src1 ρ' = some (f, ys x) ∧ fzs (ys x) = true ∧ ∀ y ∈ ys x, ∃ ρ'', st1 y (w1 ρ') = some ρ'' ∧ el ρ'' = some (g y)) → lc2D st src1 st1 el w1 ρ xs = some ((xs.flatMap ys).map g)
  | [], _ => rfl
  | x :: r, h => by
    obtain ⟨ρ', f, h1, h2, h3, h4⟩ := h x (List.mem_cons_self ..)
    have ih := lc2D_flat (xs := r) fun y hy => h y (List.mem_cons_of_mem _ hy)
    have e := lcD_filt (st := st1) (te := fun _ => some (true, .bool true)) (el := el) (ρ := w1 ρ') (p := fun _ => true) (g := g) (xs := ys x) fun y hy => by
      obtain ⟨ρ'', q1, q2⟩ := h4 y hy
      exact ⟨ρ'', true, q1, rfl, fun _ => q2⟩
    have e0 : (ys x).filter (fun _ => true) = ys x := by simp
    rw [e0] at e
    simp only [lc2D, h1, h2, h3, if_true, e, ih, Option.map_some, List.flatMap_cons, List.map_append]
/-- a comprehension of two loops -/
theorem lc2_flat {cal : Nat → List (Bool × D) → Option (Bool × D)} {elt : E} {t t1 : T} {src src1 : I} {own own1 : List Nat} {ρ : Ev} {f : Bool} {xs : List D} {ys : D → List D} {g : D → Bool × D} (hs : evi cal src ρ = some (f, xs)) (h : ∀ x ∈ xs, ∃ ρ' f, setT t false x (wipeE ρ own) = some ρ' ∧ evi cal src1 ρ' = some (f, ys x) ∧ fzs (ys x) = true ∧ ∀ y ∈ ys x, ∃ ρ'', setT t1 false y (wipeE ρ' own1) = some ρ'' ∧ ev cal elt false ρ'' = some (g y)) (hl : (xs.flatMap ys).length ≤ lim) :
    ev cal (.lc2 elt t src t1 src1 own own1) false ρ = some (((xs.flatMap ys).map g).all (·.1), .list (((xs.flatMap ys).map g).map (·.2))) := by
  have this := lc2D_flat (st := fun d ρ => setT t false d ρ) (src1 := fun ρ => evi cal src1 ρ) (st1 := fun d ρ => setT t1 false d ρ) (el := fun ρ => ev cal elt false ρ) (w1 := fun ρ => wipeE ρ own1) (ρ := wipeE ρ own) h
  have hl2 : ((xs.flatMap ys).map g).length ≤ lim := by rw [List.length_map]; exact hl
  simp only [ev, hs, this, fin, if_pos hl2, Bool.false_eq_true, if_false]

/-- the numbers below n, as ints -/
def nD (i : Nat) : D := .int (i : Int)

/-! ### expressions, part by part -/
section
variable {cal : Nat → List (Bool × D) → Option (Bool × D)} {ρ : Ev} {p q r o : Bool} {a b c : E} {x y z : D} {w : Bool × D}
theorem bi1 {f : Bi} (h : ev cal a false ρ = some (p, x)) (e : biD f [(p, x)] = some w) : ev cal (.bi f (.cons a .nil)) false ρ = some w := by
  simp only [ev, evs, h, fin, e, Bool.false_eq_true, if_false]
theorem bi2 {f : Bi} (h : ev cal a false ρ = some (p, x)) (h2 : ev cal b false ρ = some (q, y)) (e : biD f [(p, x), (q, y)] = some w) : ev cal (.bi f (.cons a (.cons b .nil))) false ρ = some w := by
  simp only [ev, evs, h, h2, fin, e, Bool.false_eq_true, if_false]
theorem cal1 {f : Nat} (h : ev cal a false ρ = some (p, x)) (e : cal f [(p, x)] = some w) : ev cal (.cal f (.cons a .nil)) false ρ = some w := by
  simp only [ev, evs, h, fin, e, Bool.false_eq_true, if_false]
theorem cal2 {f : Nat} (h : ev cal a false ρ = some (p, x)) (h2 : ev cal b false ρ = some (q, y)) (e : cal f [(p, x), (q, y)] = some w) : ev cal (.cal f (.cons a (.cons b .nil))) false ρ = some w := by
  simp only [ev, evs, h, h2, fin, e, Bool.false_eq_true, if_false]
theorem cal3 {f : Nat} (h : ev cal a false ρ = some (p, x)) (h2 : ev cal b false ρ = some (q, y)) (h3 : ev cal c false ρ = some (r, z)) (e : cal f [(p, x), (q, y), (r, z)] = some w) : ev cal (.cal f (.cons a (.cons b (.cons c .nil)))) false ρ = some w := by
  simp only [ev, evs, h, h2, h3, fin, e, Bool.false_eq_true, if_false]
theorem bin_ev {f : Bo} (h : ev cal a false ρ = some (p, x)) (h2 : ev cal b false ρ = some (q, y)) (e : binD f x y = some w) : ev cal (.bin f a b) false ρ = some w := by
  simp only [ev, h, h2, fin, e, Bool.false_eq_true, if_false]
theorem ix_ev (h : ev cal a false ρ = some (p, x)) (h2 : ev cal b false ρ = some (q, y)) (e : ixD x y = some w) : ev cal (.ix a b) false ρ = some w := by
  simp only [ev, h, h2, fin, e, Bool.false_eq_true, if_false]
theorem cmp_t {f : Co} {v : Bool} (h : ev cal a false ρ = some (p, x)) (h2 : ev cal b false ρ = some (q, y)) (e : cmpD f x y = some v) : ev cal (.cmp f a b) true ρ = some (true, .bool v) := by
  simp only [ev, h, h2, fin, e, boolD, Option.map_some, truD, if_true]
theorem cmp_v {f : Co} {v : Bool} (h : ev cal a false ρ = some (p, x)) (h2 : ev cal b false ρ = some (q, y)) (e : cmpD f x y = some v) : ev cal (.cmp f a b) false ρ = some (true, .bool v) := by
  simp only [ev, h, h2, fin, e, boolD, Option.map_some, Bool.false_eq_true, if_false]
theorem as_t {v : Bool} (f : Nat) {es : Es} (h : ev cal (.cal f es) false ρ = some (p, .bool v)) : ev cal (.cal f es) true ρ = some (true, .bool v) := by
  simp only [ev, fin, Bool.false_eq_true, if_false] at h
  simp only [ev, fin, h, if_true, truD, Option.map_some]
theorem nt_t {m v : Bool} (h : ev cal a m ρ = some (p, .bool v)) : ev cal (.nt a) m ρ = some (true, .bool (!v)) := by
  simp only [ev, h]
theorem ro_f {m : Bool} {w : Option (Bool × D)} (h : ev cal a m ρ = some (p, .bool false)) (h2 : ev cal b m ρ = w) : ev cal (.ro a b) m ρ = w := by
  simp only [ev, h, h2]
theorem ro_t {m : Bool} (h : ev cal a m ρ = some (p, .bool true)) : ev cal (.ro a b) m ρ = some (true, .bool true) := by
  simp only [ev, h]
theorem an_t {m : Bool} {w : Option (Bool × D)} (h : ev cal a m ρ = some (p, .bool true)) (h2 : ev cal b m ρ = w) : ev cal (.an a b) m ρ = w := by
  simp only [ev, h, h2]
theorem an_f {m : Bool} (h : ev cal a m ρ = some (p, .bool false)) : ev cal (.an a b) m ρ = some (true, .bool false) := by
  simp only [ev, h]
theorem ite_t {m : Bool} {w : Option (Bool × D)} (h : ev cal c true ρ = some (p, .bool true)) (h2 : ev cal a m ρ = w) : ev cal (.ite c a b) m ρ = w := by
  simp only [ev, h, h2]
theorem ite_f {m : Bool} {w : Option (Bool × D)} (h : ev cal c true ρ = some (p, .bool false)) (h2 : ev cal b m ρ = w) : ev cal (.ite c a b) m ρ = w := by
  simp only [ev, h, h2]
theorem k_ev {d : D} : ev cal (.k d) false ρ = some (true, d) := by simp only [ev, fin, Bool.false_eq_true, if_false]
theorem v_ev {i : Nat} {d : D} (h : ρ[i]? = some (some (p, d))) : ev cal (.v i) false ρ = some (fz d, d) := by simp only [ev, fin, getD?, h, Option.map_some, Bool.false_eq_true, if_false]
theorem evs_1 (h : ev cal a false ρ = some w) : evs cal (.cons a .nil) ρ = some [w] := by simp only [evs, h]
theorem v_n {i n : Nat} (h : ρ[i]? = some (some (p, nD n))) : ev cal (.v i) false ρ = some (true, .int (n : Int)) := v_ev h
theorem v_t {i : Nat} {d : D} (h : ρ[i]? = some (some (p, d))) (hf : fz d = true) : ev cal (.v i) false ρ = some (true, d) := by rw [v_ev h, hf]
theorem v_l {i : Nat} {xs : List D} (h : ρ[i]? = some (some (p, .list xs))) : ev cal (.v i) false ρ = some (false, .list xs) := v_ev h
theorem evs_n : evs cal .nil ρ = some [] := by simp only [evs]
theorem evs_c {es : Es} {ps : List (Bool × D)} (h : ev cal a false ρ = some w) (h2 : evs cal es ρ = some ps) : evs cal (.cons a es) ρ = some (w :: ps) := by simp only [evs, h, h2]
theorem lst_ev {es : Es} {ps : List (Bool × D)} (h : evs cal es ρ = some ps) (hl : ps.length ≤ lim) : ev cal (.lst es) false ρ = some (ps.all (·.1), .list (ps.map (·.2))) := by
  simp only [ev, h, if_pos hl, fin, Bool.false_eq_true, if_false]
theorem tup_ev {es : Es} {ps : List (Bool × D)} (h : evs cal es ρ = some ps) (hl : ps.length ≤ lim) : ev cal (.tup es) false ρ = some (ps.all (·.1), .tuple (ps.map (·.2))) := by
  simp only [ev, h, if_pos hl, fin, Bool.false_eq_true, if_false]
theorem e_ev {xs : List D} (h : ev cal a false ρ = some (p, x)) (e : itemsD x = some xs) : evi cal (.e a) ρ = some (p, xs) := by
  simp only [evi, h, e, Option.map_some]
end

/-! ### steps -/
theorem nat_rng {n : Nat} (h : n ≤ lim) : (n : Int) < 4611686018427387904 ∧ -4611686018427387904 ≤ (n : Int) := by
  have : n ≤ 16777216 := h
  omega
theorem rng_ev {cal : Nat → List (Bool × D) → Option (Bool × D)} {a : E} {ρ : Ev} {f : Bool} {n : Nat} (h : ev cal a false ρ = some (f, .int n)) (hb : n ≤ lim) : evi cal (.rng1 a) ρ = some (true, rngD 0 n) := by
  have hb := nat_rng hb
  simp only [evi, h]
  exact if_pos hb
theorem rng_T {cal : Nat → List (Bool × D) → Option (Bool × D)} {a : E} {ρ : Ev} {f : Bool} {n : Nat} (h : ev cal a false ρ = some (f, .int n)) (hb : n ≤ lim) : evi cal (.rng1 a) ρ = some (true, (List.range n).map nD) := by
  rw [rng_ev h hb, rng_0]
  rfl
theorem next_ok {cal : Nat → List (Bool × D) → Option (Bool × D)} {fu : Nat} {s : S} {r : Ss} {ρ ρ' : Ev} (h : exS cal fu s ρ = some (.next, ρ')) : exs cal fu (.cons s r) ρ = exs cal fu r ρ' := by
  simp only [exs, h]
theorem ret_ok {cal : Nat → List (Bool × D) → Option (Bool × D)} {fu : Nat} {e : E} {r : Ss} {ρ : Ev} {o : Bool} {d : D} (h : ev cal e false ρ = some (o, d)) : exs cal fu (.cons (.ret e) r) ρ = some (.ret o d, ρ) := by
  simp only [exs, exS, h]
theorem nil_ok {cal : Nat → List (Bool × D) → Option (Bool × D)} {fu : Nat} {ρ : Ev} : exs cal fu .nil ρ = some (.next, ρ) := by simp only [exs]
theorem skip_ok {cal : Nat → List (Bool × D) → Option (Bool × D)} {fu : Nat} {t : E} {a r : Ss} {ρ : Ev} {o : Bool} (h : ev cal t true ρ = some (o, .bool false)) : exs cal fu (.cons (.ife t a .nil) r) ρ = exs cal fu r ρ := by
  simp only [exs, exS, h]
theorem ife_t {cal : Nat → List (Bool × D) → Option (Bool × D)} {fu : Nat} {t : E} {a b : Ss} {ρ : Ev} {o : Bool} (h : ev cal t true ρ = some (o, .bool true)) : exS cal fu (.ife t a b) ρ = exs cal fu a ρ := by
  simp only [exS, h]
theorem ife_f {cal : Nat → List (Bool × D) → Option (Bool × D)} {fu : Nat} {t : E} {a b : Ss} {ρ : Ev} {o : Bool} (h : ev cal t true ρ = some (o, .bool false)) : exS cal fu (.ife t a b) ρ = exs cal fu b ρ := by
  simp only [exS, h]
/-- a new value that is the statement's own -/
theorem asgn_ok {cal : Nat → List (Bool × D) → Option (Bool × D)} {fu i : Nat} {e : E} {ρ : Ev} {d : D} (h : ev cal e false ρ = some (true, d)) (hi : i < ρ.length) : exS cal fu (.asg (.n i) e) ρ = some (.next, ρ.set i (some (true, d))) := by
  simp only [exS, h, if_true, setT, if_pos hi, Bool.true_or, Option.map_some]
theorem aug_ok {cal : Nat → List (Bool × D) → Option (Bool × D)} {fu i : Nat} {o : Bo} {e : E} {ρ : Ev} {b c : Bool} {x y : Int} {w : Bool × D} (hx : ρ[i]? = some (some (b, .int x))) (he : ev cal e false ρ = some (c, .int y)) (hb : binD o (.int x) (.int y) = some w) : exS cal fu (.aug i o e) ρ = some (.next, ρ.set i (some w)) := by
  simp only [exS, getD?, hx, he, hb, Option.map_some]
theorem for_ok {cal : Nat → List (Bool × D) → Option (Bool × D)} {fu : Nat} {t : T} {src : I} {b : Ss} {ρ : Ev} {ds : List D} (h : evi cal src ρ = some (true, ds)) : exS cal fu (.fore t src b) ρ = forD (fun d ρ => setT t false d ρ) (fun ρ => exs cal fu b ρ) ds ρ := by
  simp only [exS, h, if_true]
/-- a loop keeps what each turn keeps -/
theorem for_inv {st : D → Ev → Option Ev} {body : Ev → Option (Fl × Ev)} (P : Nat → Ev → Prop) : ∀ {xs : List D} {i : Nat} {ρ : Ev}, P i ρ → (∀ j d ρ, xs[j]? = some d → P (i + j) ρ → ∃ ρ1 ρ2, st d ρ = some ρ1 ∧ (body ρ1 = some (.next, ρ2) ∨ body ρ1 = some (.cont, ρ2)) ∧ P (i + j + 1) ρ2) → ∃ ρ', forD st body xs ρ = some (.next, ρ') ∧ P (i + xs.length) ρ'
  | [], i, ρ, h, _ => ⟨ρ, rfl, h⟩
  | d :: r, i, ρ, h, hs => by
    obtain ⟨ρ1, ρ2, e1, e2, h2⟩ := hs 0 d ρ rfl h
    obtain ⟨ρ', q1, q2⟩ := for_inv P (xs := r) (i := i + 1) (ρ := ρ2) h2 fun j d ρ hj hp => by
      have := hs (j + 1) d ρ hj (by rw [show i + (j + 1) = i + 1 + j by omega]; exact hp)
      rwa [show i + (j + 1) + 1 = i + 1 + j + 1 by omega] at this
    refine ⟨ρ', ?_, by rw [show i + (d :: r).length = i + 1 + r.length by simp; omega]; exact q2⟩
    simp only [forD, e1]
    rcases e2 with e2 | e2 <;> (simp only [e2]; exact q1)
/-- a loop that returns at its first turn of a kind, else goes on -/
theorem for_find {st : D → Ev → Option Ev} {body : Ev → Option (Fl × Ev)} (P : Nat → Ev → Prop) {b : Bool} {r : D} : ∀ {n : Nat} {xs : List D} {i : Nat} {ρ : Ev}, P i ρ → n < xs.length → (∀ j d ρ, j < n → xs[j]? = some d → P (i + j) ρ → ∃ ρ1 ρ2, st d ρ = some ρ1 ∧ (body ρ1 = some (.next, ρ2) ∨ body ρ1 = some (.cont, ρ2)) ∧ P (i + j + 1) ρ2) → (∀ d ρ, xs[n]? = some d → P (i + n) ρ → ∃ ρ1 ρ2, st d ρ = some ρ1 ∧ body ρ1 = some (.ret b r, ρ2)) → ∃ ρ', forD st body xs ρ = some (.ret b r, ρ')
  | _, [], _, _, _, hn, _, _ => absurd hn (Nat.not_lt_zero _)
  | 0, d :: xs, i, ρ, h, _, _, he => by
    obtain ⟨ρ1, ρ2, e1, e2⟩ := he d ρ rfl h
    exact ⟨ρ2, by simp only [forD, e1, e2]⟩
  | n + 1, d :: xs, i, ρ, h, hn, hs, he => by
    obtain ⟨ρ1, ρ2, e1, e2, h2⟩ := hs 0 d ρ (by omega) rfl h
    obtain ⟨ρ', q1⟩ := for_find P (n := n) (xs := xs) (i := i + 1) (ρ := ρ2) h2 (by simpa using hn) (fun j d ρ hn hj hp => by
      have := hs (j + 1) d ρ (by omega) hj (by rw [show i + (j + 1) = i + 1 + j by omega]; exact hp)
      rwa [show i + (j + 1) + 1 = i + 1 + j + 1 by omega] at this) fun d ρ hd hp => he d ρ hd (by rw [show i + (n + 1) = i + 1 + n by omega]; exact hp)
    refine ⟨ρ', ?_⟩
    simp only [forD, e1]
    rcases e2 with e2 | e2 <;> (simp only [e2]; exact q1)
/-- a call from its body -/
theorem calls_ok {fns : List Fn} {f np ns : Nat} {b : Ss} {fu k : Nat} {as : List (Bool × D)} {r : D} {ρ : Ev} {o : Bool} (hf : fns[f]? = some ⟨np, ns, b⟩) (hl : as.length = np ∧ np ≤ ns) (h : exs (callD fns fu k) fu b (as.map some ++ List.replicate (ns - np) none) = some (.ret o r, ρ)) : callD fns fu (k + 1) f as = some (o, r) := by
  unfold callD
  rw [hf]
  simp only
  rw [if_pos hl, h]

/-! ### arithmetic -/
theorem bin_add (i j : Int) : binD .add (.int i) (.int j) = some (true, .int (i + j)) := rfl
theorem bin_sub (i j : Int) : binD .sub (.int i) (.int j) = some (true, .int (i - j)) := rfl
theorem bin_mulR {i j : Int} (h : -18446744073709551616 < j ∧ j < 18446744073709551616) : binD .mul (.int i) (.int j) = some (true, .int (i * j)) := if_pos (.inr h)
theorem bin_mulL {i j : Int} (h : -18446744073709551616 < i ∧ i < 18446744073709551616) : binD .mul (.int i) (.int j) = some (true, .int (i * j)) := if_pos (.inl h)
theorem bin_mod {i j : Int} (h : 0 < j) : binD .mod (.int i) (.int j) = some (true, .int (i % j)) := if_pos h
theorem bin_fdiv {i j : Int} (h : 0 < j ∧ j < 1073741824) : binD .fdiv (.int i) (.int j) = some (true, .int (i / j)) := if_pos h
theorem bin_powG {i j : Int} (h : 0 ≤ j ∧ j ≤ 1000000 ∧ i.natAbs < 18446744073709551616) : binD .pow (.int i) (.int j) = some (true, .int (i ^ j.toNat)) := if_pos h
theorem bin_fdivN {i j : Nat} (h : 0 < j ∧ j < 1073741824) : binD .fdiv (.int i) (.int j) = some (true, .int ((i / j : Nat) : Int)) := (bin_fdiv (by omega)).trans rfl
theorem bin_modN {i j : Nat} (h : 0 < j) : binD .mod (.int i) (.int j) = some (true, .int ((i % j : Nat) : Int)) := (bin_mod (by omega)).trans rfl

theorem bin_mulN {i j : Nat} (h : i ≤ lim) : binD .mul (.int i) (.int j) = some (true, .int ((i * j : Nat) : Int)) := by
  have : i ≤ 16777216 := h
  exact (bin_mulL (by omega)).trans (by rw [Int.natCast_mul])
theorem eqn_ints (S : List Nat) : S.map nD = (S.map fun (i : Nat) => (i : Int)).map .int := by
  rw [List.map_map]
  rfl
theorem sum_cast : ∀ (S : List Nat), (S.map fun (i : Nat) => (i : Int)).sum = ((S.sum : Nat) : Int)
  | [] => rfl
  | x :: r => by
    rw [List.map_cons, List.sum_cons, List.sum_cons, sum_cast r, Int.natCast_add]
theorem sum_nD (S : List Nat) (p : Bool) : biD .sum [(p, .list (S.map nD))] = some (true, .int ((S.sum : Nat) : Int)) := by
  simp only [biD, eqn_ints, intsD_map, Option.map_some, sum_cast]
theorem min_foldl : ∀ (r : List Int) (x : Int), (r.foldl (fun a b => if b < a then b else a) x ∈ x :: r) ∧ ∀ y ∈ x :: r, r.foldl (fun a b => if b < a then b else a) x ≤ y
  | [], x => by simp
  | z :: r, x => by
    obtain ⟨w, hw⟩ : ∃ w, w = if z < x then z else x := ⟨_, rfl⟩
    have f1 : w ≤ z := by rw [hw]; split <;> omega
    have f2 : w ≤ x := by rw [hw]; split <;> omega
    have f3 : w = z ∨ w = x := by rw [hw]; split <;> simp
    obtain ⟨h1, h2⟩ := min_foldl r w
    rw [List.foldl_cons, ← hw]
    have h3 := h2 _ (List.mem_cons_self ..)
    constructor
    · rcases List.mem_cons.mp h1 with h | h
      · rcases f3 with e | e
        · rw [h, e]; simp
        · rw [h, e]; simp
      · exact List.mem_cons_of_mem _ (List.mem_cons_of_mem _ h)
    · intro y hy
      rcases List.mem_cons.mp hy with rfl | hy
      · omega
      · rcases List.mem_cons.mp hy with rfl | hy
        · omega
        · exact h2 y (List.mem_cons_of_mem _ hy)
theorem minI_ok {S : List Int} (h : S ≠ []) : minI S ∈ S ∧ ∀ y ∈ S, minI S ≤ y := by
  cases S with
  | nil => exact absurd rfl h
  | cons x r => exact min_foldl r x
theorem minI_nat {S : List Nat} (h : S ≠ []) : ∃ m ∈ S, (∀ s ∈ S, m ≤ s) ∧ ∀ p, biD .min1 [(p, .list (S.map nD))] = some (true, .int (m : Nat)) := by
  have hne : (S.map fun (i : Nat) => (i : Int)) ≠ [] := by simpa using h
  obtain ⟨h1, h2⟩ := minI_ok hne
  obtain ⟨m, hm, e⟩ := List.mem_map.mp h1
  refine ⟨m, hm, fun s hs => ?_, fun p => ?_⟩
  · have := h2 (s : Int) (List.mem_map.mpr ⟨s, hs, rfl⟩)
    omega
  · have : (S.map nD).isEmpty = false := by
      cases S with
      | nil => exact absurd rfl h
      | cons => rfl
    simp only [biD, this, Bool.false_eq_true, if_false]
    rw [eqn_ints, intsD_map, Option.map_some, ← e]
/-- a loop over a list that is a name's -/
theorem for_okF {cal : Nat → List (Bool × D) → Option (Bool × D)} {fu : Nat} {t : T} {src : I} {b : Ss} {ρ : Ev} {ds : List D} (h : evi cal src ρ = some (false, ds)) : exS cal fu (.fore t src b) ρ = forD (fun d ρ => setT t false d ρ) (fun ρ => exs cal fu b ρ) ds (shareL (vnI src) ρ) := by
  simp only [exS, h, Bool.false_eq_true, if_false]
theorem erase_perm : ∀ (l : List Int) (j : Nat) (h : j < l.length), (l[j] :: l.eraseIdx j).Perm l
  | [], _, h => absurd h (Nat.not_lt_zero _)
  | x :: r, 0, _ => .refl _
  | x :: r, j + 1, h => by
    rw [List.length_cons] at h
    exact (List.Perm.swap x _ _).trans ((erase_perm r j (by omega)).cons x)
theorem map_erase {α β : Type} (f : α → β) : ∀ (l : List α) (j : Nat), (l.map f).eraseIdx j = (l.eraseIdx j).map f
  | [], _ => by simp
  | x :: r, 0 => by simp
  | x :: r, j + 1 => by simp [map_erase f r j]
/-- pops of all items, in any order -/
theorem popL_perm {i : Nat} {st : D → Ev → Option Ev} {k : Ev → Option (Bool × D)} {w : Ev → Ev} {ρ : Ev} : ∀ {ds : List D} {xs : List Int}, ds.length = xs.length → (∀ d ∈ ds, ∀ ys : List Int, ys ≠ [] → ys.length ≤ xs.length → ∃ ρ' o, ∃ j : Nat, st d (w (ρ.set i (some (true, .list (ys.map .int))))) = some ρ' ∧ k ρ' = some (o, .int (j : Int)) ∧ j < ys.length) → ∃ zs : List Int, popL i st k w ρ ds (xs.map .int) = some (zs.map .int, []) ∧ zs.Perm xs
  | [], [], _, _ => ⟨[], rfl, .refl _⟩
  | d :: ds, xs, hl, h => by
    rw [List.length_cons] at hl
    have hne : xs ≠ [] := fun z => by subst z; simp at hl
    obtain ⟨ρ', o, j, h1, h2, h3⟩ := h d (List.mem_cons_self ..) xs hne (Nat.le_refl _)
    have hle : (xs.eraseIdx j).length = xs.length - 1 := List.length_eraseIdx_of_lt h3
    obtain ⟨zs, h4, h5⟩ := popL_perm (ds := ds) (xs := xs.eraseIdx j) (by omega) fun d hd ys hy hyl => h d (List.mem_cons_of_mem _ hd) ys hy (by omega)
    refine ⟨xs[j] :: zs, ?_, (h5.cons _).trans (erase_perm _ _ h3)⟩
    have e1 : ixN (xs.map PyData.int).length (j : Int) = some j := ixN_nat (by rw [List.length_map]; exact h3)
    have e2 : (xs.map PyData.int)[j]? = some (.int xs[j]) := by simp [h3]
    have e3 : (xs.map PyData.int).eraseIdx j = (xs.eraseIdx j).map .int := map_erase _ _ _
    simp only [popL, h1, h2, e1, e2, e3, h4, Option.map_some, List.map_cons]
theorem popsLc_ok {cal : Nat → List (Bool × D) → Option (Bool × D)} {fu t i : Nat} {tp : Bool} {k : E} {tg : T} {src : I} {own : List Nat} {ρ : Ev} {ds xs zs ys : List D} (hs : evi cal src ρ = some (true, ds)) (ho : ownD ρ i = some (.list xs)) (hf : fzs ds = true ∧ fzs xs = true ∧ ds.length ≤ lim ∧ xs.length ≤ lim ∧ i ∉ own) (h : popL i (fun d ρ => setT tg false d ρ) (fun ρ => ev cal k false ρ) (fun ρ => wipeE ρ own) ρ ds xs = some (zs, ys)) : exS cal fu (.popLc t tp i k tg src own) ρ = (setT (.n t) true (if tp then .tuple zs else .list zs) (ρ.set i (some (true, .list ys)))).map fun ρ => (.next, ρ) := by
  simp only [exS, hs, ho, if_pos hf, h]

/-! ### sorted -/
theorem sortL_ints (l : List Int) : sortL (l.map .int) = (l.mergeSort fun a b => decide (a ≤ b)).map .int := by
  unfold sortL
  have e := PySem.W.dataLe_int (fun b : Int => b)
  have := List.map_mergeSort (r := PySem.W.dataLe false (fun b : Int => PyData.int b)) (s := PySem.W.dataLe false id) (f := PyData.int) (l := l) (fun a _ b _ => rfl)
  rw [← this, e]
theorem alike_ints (l : List Int) : alikeL (l.map .int) = true := by
  unfold alikeL
  simp [List.all_eq_true, PySem.W.alike]
theorem sortable_ints (l : List Int) : sortableB (l.map .int) = true := by
  unfold sortableB
  simp [List.all_eq_true]
theorem sortD_ints {l s : List Int} (hp : l.Perm s) (hs : s.Pairwise (· ≤ ·)) (hl : l.length ≤ lim) : sortD (l.map .int) = some (s.map .int) := by
  unfold sortD
  have hl2 : (l.map PyData.int).length ≤ lim := by rw [List.length_map]; exact hl
  rw [alike_ints, sortable_ints, sh_ints, decide_eq_true hl2, sortL_ints]
  have h1 : (l.mergeSort fun a b => decide (a ≤ b)).Perm s := (List.mergeSort_perm l _).trans hp
  have h2 : (l.mergeSort fun a b => decide (a ≤ b)).Pairwise fun a b => decide (a ≤ b) = true := List.pairwise_mergeSort (fun a b c h h' => by simp at *; omega) (fun a b => by simp; omega) l
  have : (l.mergeSort fun a b => decide (a ≤ b)) = s := h1.eq_of_pairwise (le := fun a b => decide (a ≤ b) = true) (fun a b _ _ h h' => by simp at *; omega) h2 (hs.imp fun h => by simpa using h)
  rw [this]
  rfl
end Den

set_option Elab.async false
set_option linter.all false
set_option maxRecDepth 100000
/-! DenV: what is alike in all laws: cells and draws, `is`; lists and tuples of ints, step by step. -/
namespace Den
open PySem PySem.Spec PyProof.Rows L2
def celB : Ss := (.cons (.ife (.cmp .lt (.v 1) (.bi .len (.cons (.v 0) .nil))) (.cons (.ret (.ix (.v 0) (.v 1)))
  .nil) .nil)
  (.cons (.ret (.bin .add (.bin .mul (.k (.int 5)) (.v 1)) (.k (.int 3))))
  .nil))
def drwB : Ss := (.cons (.asg (.n 2) (.bi .abs (.cons (.bi .int (.cons (.v 0) .nil)) .nil)))
  (.cons (.asg (.n 3) (.cmp .ge (.v 2) (.bin .pow (.k (.int 10)) (.k (.int 18)))))
  (.cons (.asg (.n 4) (.v 2))
  (.cons (.asg (.n 5) (.lst .nil))
  (.cons (.fore (.n 6) (.rng1 (.v 1)) (.cons (.ife (.an (.v 3) (.cmp .gt (.v 2) (.k (.int 0)))) (.cons (.app 5 (.bin .mod (.bi .int (.cons (.v 2) .nil)) (.k (.int 5040))))
  (.cons (.asg (.n 2) (.bin .fdiv (.v 2) (.k (.int 5040))))
  .nil)) (.cons (.asg (.n 7) (.bin .mod (.bi .int (.cons (.bin .add (.bin .add (.bin .mul (.v 4) (.k (.int 48271))) (.bin .mul (.bin .add (.v 6) (.k (.int 1))) (.k (.int 69621)))) (.k (.int 11))) .nil)) (.k (.int 2147483647))))
  (.cons (.asg (.n 7) (.bin .mod (.bi .int (.cons (.bin .add (.bin .mul (.v 7) (.v 7)) (.bin .mul (.k (.int 40692)) (.bin .add (.v 6) (.k (.int 3))))) .nil)) (.k (.int 2147483399))))
  (.cons (.app 5 (.bin .mod (.bi .int (.cons (.bin .fdiv (.v 7) (.k (.int 64))) .nil)) (.k (.int 5040))))
  .nil))))
  .nil))
  (.cons (.retV 5)
  .nil))))))
def intB : Ss := (.cons (.ret (.an (.bi .isInt (.cons (.v 0) .nil)) (.nt (.bi .isBool (.cons (.v 0) .nil)))))
  .nil)
def lisB (c8 c9 : Nat) : Ss := (.cons (.ife (.cmp .isN (.v 1) (.k .none)) (.cons (.ret (.cmp .isN (.v 0) (.k .none)))
  .nil) .nil)
  (.cons (.ife (.bi .isBool (.cons (.v 1) .nil)) (.cons (.ret (.an (.bi .isBool (.cons (.v 0) .nil)) (.cmp .eq (.v 0) (.v 1))))
  .nil) .nil)
  (.cons (.ife (.bi .isInt (.cons (.v 1) .nil)) (.cons (.ret (.an (.cal c8 (.cons (.v 0) .nil)) (.cmp .eq (.v 0) (.v 1))))
  .nil) .nil)
  (.cons (.ife (.bi .isStr (.cons (.v 1) .nil)) (.cons (.ret (.an (.bi .isStr (.cons (.v 0) .nil)) (.cmp .eq (.v 0) (.v 1))))
  .nil) .nil)
  (.cons (.ife (.ro (.nt (.bi .isTuple (.cons (.v 0) .nil))) (.cmp .ne (.bi .len (.cons (.v 0) .nil)) (.bi .len (.cons (.v 1) .nil)))) (.cons (.ret (.k (.bool false)))
  .nil) .nil)
  (.cons (.ret (.bi .all (.cons (.lc (.cal c9 (.cons (.ix (.v 0) (.v 2)) (.cons (.ix (.v 1) (.v 2)) .nil))) (.n 2) (.rng1 (.bi .len (.cons (.v 1) .nil))) .no [2]) .nil)))
  .nil))))))
theorem scrOf_scr' (ns : List Int) : scrOf [(.none, .list (ns.map .int))] = some ns := scrOf_scr ns
def cellF (ns : List Int) (i : Nat) : Int := if i < ns.length then ns.getD i 0 else 5 * i + 3
theorem cell_ok {fns : List Fn} {f : Nat} (hf : fns[f]? = some ⟨2, 2, celB⟩) (ns : List Int) (i : Nat) (p q : Bool) (fu k : Nat) : callD fns fu (k + 1) f [(p, scrD ns), (q, .int i)] = some (true, .int (cellF ns i)) := by
  unfold cellF
  by_cases h : i < ns.length
  · have h2 : atI ns (i : Int) = some ns[i] := by
      unfold atI ixN
      simp [h]
    simp [callD, hf, celB, exs, exS, ev, evs, fin, getD?, biD, scrD, scrOf_scr', boolD, cmpD, ltD, h, ixD, h2, truD, shr, fz, bxB]
  · simp [callD, hf, celB, exs, exS, ev, evs, fin, getD?, biD, scrD, scrOf_scr', boolD, cmpD, ltD, h, binD, truD, fz, bxB]

theorem forD_inv {st : D → Ev → Option Ev} {body : Ev → Option (Fl × Ev)} (P : Nat → Ev → Prop) : ∀ {xs : List D} {i : Nat} {ρ : Ev}, P i ρ → (∀ j d ρ, xs[j]? = some d → P (i + j) ρ → ∃ ρ1 ρ2, st d ρ = some ρ1 ∧ (body ρ1 = some (.next, ρ2) ∨ body ρ1 = some (.cont, ρ2)) ∧ P (i + j + 1) ρ2) → ∃ ρ', forD st body xs ρ = some (.next, ρ') ∧ P (i + xs.length) ρ'
  | [], i, ρ, h, _ => ⟨ρ, rfl, h⟩
  | d :: r, i, ρ, h, hs => by
    obtain ⟨ρ1, ρ2, e1, e2, h2⟩ := hs 0 d ρ rfl h
    obtain ⟨ρ', q1, q2⟩ := forD_inv P (xs := r) (i := i + 1) (ρ := ρ2) h2 fun j d ρ hj hp => by
      have := hs (j + 1) d ρ hj (by rw [show i + (j + 1) = i + 1 + j by omega]; exact hp)
      rwa [show i + (j + 1) + 1 = i + 1 + j + 1 by omega] at this
    refine ⟨ρ', ?_, by rw [show i + (d :: r).length = i + 1 + r.length by simp; omega]; exact q2⟩
    simp only [forD, e1]
    rcases e2 with e2 | e2 <;> (simp only [e2]; exact q1)
theorem rng0 (n : Nat) : rngD 0 n = (List.range n).map fun (i : Nat) => PyData.int (i : Int) := by
  unfold rngD
  simp
def InvD (n : Nat) (i : Nat) (ρ : Ev) : Prop := ∃ (c cn : Option (Bool × D)) (rest : Int) (dg : Bool) (seed : Int) (ds : List Int) (ks ms : Option (Bool × D)), ρ = [c, cn, some (true, .int rest), some (true, .bool dg), some (true, .int seed), some (true, .list (ds.map .int)), ks, ms] ∧ ds.length = i ∧ ∀ x ∈ ds, 0 ≤ x ∧ x < 5040
theorem mod_in (x : Int) : 0 ≤ x % 5040 ∧ x % 5040 < 5040 := ⟨Int.emod_nonneg _ (by decide), Int.emod_lt_of_pos _ (by decide)⟩
theorem mod_lt (x : Int) : 0 ≤ x % 2147483647 ∧ x % 2147483647 < 2147483647 := ⟨Int.emod_nonneg _ (by decide), Int.emod_lt_of_pos _ (by decide)⟩
theorem exs_next {cal : Nat → List (Bool × D) → Option (Bool × D)} {fu : Nat} {s : S} {r : Ss} {ρ ρ' : Ev} (h : exS cal fu s ρ = some (.next, ρ')) : exs cal fu (.cons s r) ρ = exs cal fu r ρ' := by
  simp only [exs, h]
section
variable (c cn : Option (Bool × D)) (rest seed : Int) (dg : Bool) (ds : List D) (j : Int) (ms : Option (Bool × D)) (cal : Nat → List (Bool × D) → Option (Bool × D)) (fu : Nat)
theorem mix_1 : exS cal fu (.asg (.n 7) (.bin .mod (.bi .int (.cons (.bin .add (.bin .add (.bin .mul (.v 4) (.k (.int 48271))) (.bin .mul (.bin .add (.v 6) (.k (.int 1))) (.k (.int 69621)))) (.k (.int 11))) .nil)) (.k (.int 2147483647)))) [c, cn, some (true, .int rest), some (true, .bool dg), some (true, .int seed), some (true, .list ds), some (true, .int j), ms] =
      some (.next, [c, cn, some (true, .int rest), some (true, .bool dg), some (true, .int seed), some (true, .list ds), some (true, .int j), some (true, .int ((seed * 48271 + (j + 1) * 69621 + 11) % 2147483647))]) := by
  have a0 : -18446744073709551616 < (48271 : Int) ∧ (48271 : Int) < 18446744073709551616 := by decide
  have a1 : -18446744073709551616 < (69621 : Int) ∧ (69621 : Int) < 18446744073709551616 := by decide
  have p1 : (0 : Int) < 2147483647 := by decide
  simp only [exS, ev, evs, fin, getD?, List.getElem?_cons_zero, List.getElem?_cons_succ, Option.map_some, Bool.false_eq_true, if_false, bin_add, biD, vn, setT, List.length_cons, List.length_nil, if_true, List.set_cons_succ, List.set_cons_zero, Bool.true_or, bin_mulR a0, bin_mulR a1, bin_mod p1]
  rw [if_pos (by decide)]
  rfl
theorem mix_2 {m : Int} (hm : 0 ≤ m ∧ m < 2147483647) : exS cal fu (.asg (.n 7) (.bin .mod (.bi .int (.cons (.bin .add (.bin .mul (.v 7) (.v 7)) (.bin .mul (.k (.int 40692)) (.bin .add (.v 6) (.k (.int 3))))) .nil)) (.k (.int 2147483399)))) [c, cn, some (true, .int rest), some (true, .bool dg), some (true, .int seed), some (true, .list ds), some (true, .int j), some (true, .int m)] =
      some (.next, [c, cn, some (true, .int rest), some (true, .bool dg), some (true, .int seed), some (true, .list ds), some (true, .int j), some (true, .int ((m * m + 40692 * (j + 3)) % 2147483399))]) := by
  have a0 : -18446744073709551616 < (40692 : Int) ∧ (40692 : Int) < 18446744073709551616 := by decide
  have a1 : -18446744073709551616 < m ∧ m < 18446744073709551616 := ⟨by omega, by omega⟩
  have p1 : (0 : Int) < 2147483399 := by decide
  simp only [exS, ev, evs, fin, getD?, List.getElem?_cons_zero, List.getElem?_cons_succ, Option.map_some, Bool.false_eq_true, if_false, bin_add, biD, vn, setT, List.length_cons, List.length_nil, if_true, List.set_cons_succ, List.set_cons_zero, Bool.true_or, bin_mulL a0, bin_mulL a1, bin_mod p1]
  rw [if_pos (by decide)]
  rfl
theorem mix_3 {m : Int} (hl : ds.length < 16777216) : exS cal fu (.app 5 (.bin .mod (.bi .int (.cons (.bin .fdiv (.v 7) (.k (.int 64))) .nil)) (.k (.int 5040)))) [c, cn, some (true, .int rest), some (true, .bool dg), some (true, .int seed), some (true, .list ds), some (true, .int j), some (true, .int m)] =
      some (.next, [c, cn, some (true, .int rest), some (true, .bool dg), some (true, .int seed), some (true, .list (ds ++ [.int (m / 64 % 5040)])), some (true, .int j), some (true, .int m)]) := by
  have a0 : (0 : Int) < 64 ∧ (64 : Int) < 1073741824 := by decide
  have p1 : (0 : Int) < 5040 := by decide
  simp only [ownD, exS, ev, evs, fin, getD?, List.getElem?_cons_zero, List.getElem?_cons_succ, Option.map_some, Bool.false_eq_true, if_false, bin_add, biD, vn, setT, List.length_cons, List.length_nil, if_true, List.set_cons_succ, List.set_cons_zero, Bool.true_or, bin_fdiv a0, bin_mod p1]
  rw [if_pos hl]
theorem mix_t (hc : ¬ (dg = true ∧ 0 < rest)) : ev cal (.an (.v 3) (.cmp .gt (.v 2) (.k (.int 0)))) true [c, cn, some (true, .int rest), some (true, .bool dg), some (true, .int seed), some (true, .list ds), some (true, .int j), ms] = some (true, .bool false) := by
  cases dg with
  | false => simp [ev, fin, getD?, truD]
  | true =>
    have hr : ¬ 0 < rest := fun z => hc ⟨rfl, z⟩
    simp [ev, fin, getD?, truD, cmpD, ltD, boolD, hr]
end
def drB : Ss := match drwB with
  | .cons _ (.cons _ (.cons _ (.cons _ (.cons (.fore _ _ b) _)))) => b
  | _ => .nil
def mx1 (seed j : Int) : Int := (seed * 48271 + (j + 1) * 69621 + 11) % 2147483647
def mx2 (seed j : Int) : Int := (mx1 seed j * mx1 seed j + 40692 * (j + 3)) % 2147483399
theorem mx1_in (seed j : Int) : 0 ≤ mx1 seed j ∧ mx1 seed j < 2147483647 := mod_lt _
theorem ife_no {cal : Nat → List (Bool × D) → Option (Bool × D)} {fu : Nat} {t : E} {a b : Ss} {ρ ρ' : Ev} (h : ev cal t true ρ = some (true, .bool false)) (h2 : exs cal fu b ρ = some (.next, ρ')) : exs cal fu (.cons (.ife t a b) .nil) ρ = some (.next, ρ') := by
  simp only [exs, exS, h, h2, truD]
theorem exs_nil {cal : Nat → List (Bool × D) → Option (Bool × D)} {fu : Nat} {ρ : Ev} : exs cal fu .nil ρ = some (.next, ρ) := by simp only [exs]
theorem body2 (c cn : Option (Bool × D)) (rest seed : Int) (dg : Bool) (ds : List Int) (j : Int) (ms : Option (Bool × D)) (hc : ¬ (dg = true ∧ 0 < rest)) (hlim : ds.length < 16777216) (cal : Nat → List (Bool × D) → Option (Bool × D)) (fu : Nat) :
    exs cal fu drB [c, cn, some (true, .int rest), some (true, .bool dg), some (true, .int seed), some (true, .list (ds.map .int)), some (true, .int j), ms] = some (.next, [c, cn, some (true, .int rest), some (true, .bool dg), some (true, .int seed), some (true, .list ((ds ++ [mx2 seed j / 64 % 5040]).map .int)), some (true, .int j), some (true, .int (mx2 seed j))]) := by
  have e1 : _ = some (Fl.next, [c, cn, some (true, .int rest), some (true, .bool dg), some (true, .int seed), some (true, .list (ds.map .int)), some (true, .int j), some (true, .int (mx1 seed j))]) := mix_1 c cn rest seed dg (ds.map .int) j ms cal fu
  have e2 : _ = some (Fl.next, [c, cn, some (true, .int rest), some (true, .bool dg), some (true, .int seed), some (true, .list (ds.map .int)), some (true, .int j), some (true, .int (mx2 seed j))]) := mix_2 c cn rest seed dg (ds.map .int) j cal fu (mx1_in seed j)
  have e3 := mix_3 c cn rest seed dg (ds.map .int) j cal fu (m := mx2 seed j) (by rw [List.length_map]; exact hlim)
  have et := mix_t c cn rest seed dg (ds.map .int) j ms cal hc
  rw [List.map_append]
  exact ife_no et ((exs_next e1).trans ((exs_next e2).trans ((exs_next e3).trans exs_nil)))
def absI (c : Int) : Int := if c < 0 then -c else c
theorem bin_pow : binD .pow (.int 10) (.int 18) = some (true, .int (10 ^ (18 : Int).toNat)) := bin_powG ⟨by decide, by decide, by decide⟩
theorem ltI_int (a b : Int) : ltD (.int a) (.int b) = some (decide (a < b)) := rfl
theorem fz_bool (b : Bool) : fz (.bool b) = true := rfl
theorem fz_int (b : Int) : fz (.int b) = true := rfl
theorem bi_abs (p : Bool) (i : Int) : biD .abs [(p, .int i)] = some (true, .int (absI i)) := rfl
theorem rng_ok {cal : Nat → List (Bool × D) → Option (Bool × D)} {a : E} {ρ : Ev} {f : Bool} {n : Int} (h : ev cal a false ρ = some (f, .int n)) (hb : n < 4611686018427387904 ∧ -4611686018427387904 ≤ n) : evi cal (.rng1 a) ρ = some (true, rngD 0 n) := by
  simp only [evi, h]
  exact if_pos hb
theorem call7 {fns : List Fn} {f : Nat} (hf : fns[f]? = some ⟨2, 8, drwB⟩) (fu k : Nat) (a b : Bool × D) (r : D) (ρ : Ev) (h : exs (callD fns fu k) fu drwB ([a, b].map some ++ List.replicate (8 - 2) none) = some (.ret true r, ρ)) : callD fns fu (k + 1) f [a, b] = some (true, r) := by
  unfold callD
  rw [hf]
  simp only [List.length_cons, List.length_nil]
  rw [if_pos (by decide), h]
theorem fore_ok {cal : Nat → List (Bool × D) → Option (Bool × D)} {fu : Nat} {t : T} {src : I} {b : Ss} {ρ : Ev} {ds : List D} (h : evi cal src ρ = some (true, ds)) : exS cal fu (.fore t src b) ρ = forD (fun d ρ => setT t false d ρ) (fun ρ => exs cal fu b ρ) ds ρ := by
  simp only [exS, h, if_true]
theorem init_ok (c : Int) (n : Nat) (p q : Bool) (cal : Nat → List (Bool × D) → Option (Bool × D)) (fu : Nat) (P : Int) (hP : binD .pow (.int 10) (.int 18) = some (true, .int P)) : exs cal fu drwB ([(p, PyData.int c), (q, PyData.int (n : Int))].map some ++ List.replicate (8 - 2) none) = exs cal fu (.cons (.fore (.n 6) (.rng1 (.v 1)) drB) (.cons (.retV 5) .nil)) [some (p, .int c), some (q, .int n), some (true, .int (absI c)), some (true, .bool (!decide (absI c < P))), some (true, .int (absI c)), some (true, .list []), none, none] := by
  show exs cal fu drwB [some (p, .int c), some (q, .int n), none, none, none, none, none, none] = _
  refine (exs_next (ρ' := [some (p, .int c), some (q, .int n), some (true, .int (absI c)), none, none, none, none, none]) ?_).trans ?_
  · simp only [exS, ev, evs, fin, getD?, List.getElem?_cons_zero, List.getElem?_cons_succ, Option.map_some, Bool.false_eq_true, if_false, biD, vn, setT, List.length_cons, List.length_nil, if_true, List.set_cons_succ, List.set_cons_zero, Bool.true_or]
    rw [if_pos (by decide)]
    rfl
  refine (exs_next (ρ' := [some (p, .int c), some (q, .int n), some (true, .int (absI c)), some (true, .bool (!decide (absI c < P))), none, none, none, none]) ?_).trans ?_
  · simp only [exS, ev, evs, fin, getD?, List.getElem?_cons_zero, List.getElem?_cons_succ, Option.map_some, Bool.false_eq_true, if_false, hP, vn, setT, List.length_cons, List.length_nil, if_true, List.set_cons_succ, List.set_cons_zero, Bool.true_or, cmpD, boolD, ltI_int]
    rw [if_pos (by decide)]
    rfl
  refine (exs_next (ρ' := [some (p, .int c), some (q, .int n), some (true, .int (absI c)), some (true, .bool (!decide (absI c < P))), some (true, .int (absI c)), none, none, none]) ?_).trans ?_
  · simp only [exS, ev, evs, fin, getD?, List.getElem?_cons_zero, List.getElem?_cons_succ, Option.map_some, Bool.false_eq_true, if_false, vn, setT, List.length_cons, List.length_nil, if_true, List.set_cons_succ, List.set_cons_zero, Bool.true_or, shareE, shr]
    simp [shr, fz_int, fz_bool]
  refine (exs_next (ρ' := [some (p, .int c), some (q, .int n), some (true, .int (absI c)), some (true, .bool (!decide (absI c < P))), some (true, .int (absI c)), some (true, .list []), none, none]) ?_).trans rfl
  simp only [exS, ev, evs, fin, getD?, List.getElem?_cons_zero, List.getElem?_cons_succ, Option.map_some, Bool.false_eq_true, if_false, vn, setT, List.length_cons, List.length_nil, if_true, List.set_cons_succ, List.set_cons_zero, Bool.true_or, shareE]
  rw [if_pos (by decide)]
  rfl
theorem draws_ok {fns : List Fn} {f : Nat} (hf : fns[f]? = some ⟨2, 8, drwB⟩) (c : Int) (n : Nat) (hn : n ≤ 1000) (p q : Bool) (fu k : Nat) : ∃ ds : List Int, ds.length = n ∧ (∀ x ∈ ds, 0 ≤ x ∧ x < 5040) ∧ callD fns fu (k + 1) f [(p, .int c), (q, .int n)] = some (true, .list (ds.map .int)) := by
  have loop : ∀ (ρ : Ev), InvD n 0 ρ → ∃ ρ', forD (fun d ρ => setT (.n 6) false d ρ) (fun ρ => exs (callD fns fu k) fu drB ρ) (rngD 0 n) ρ = some (.next, ρ') ∧ InvD n (0 + (rngD 0 n).length) ρ' := fun ρ h0 => by
    refine forD_inv (InvD n) h0 fun j d ρ hj hp => ?_
    have hjn : j < n ∧ d = .int j := by
      rw [rng0, List.getElem?_map] at hj
      obtain ⟨y, hy, e⟩ := Option.map_eq_some_iff.mp hj
      obtain ⟨h1, h2⟩ := List.getElem?_eq_some_iff.mp hy
      rw [List.length_range] at h1
      rw [List.getElem_range] at h2
      subst h2
      exact ⟨h1, e.symm⟩
    obtain ⟨hj, rfl⟩ := hjn
    obtain ⟨c, cn, rest, dg, seed, ds, ks, ms, rfl, hl, hm⟩ := hp
    have hlim : ds.length < 16777216 := by omega
    have hjb : j < 1000 := by omega
    by_cases hc : dg = true ∧ 0 < rest
    · obtain ⟨rfl, hr⟩ := hc
      refine ⟨[c, cn, some (true, .int rest), some (true, .bool true), some (true, .int seed), some (true, .list (ds.map .int)), some (true, .int j), ms], [c, cn, some (true, .int (rest / 5040)), some (true, .bool true), some (true, .int seed), some (true, .list ((ds ++ [rest % 5040]).map .int)), some (true, .int j), ms], by simp [setT, fz], .inl ?_, c, cn, _, _, _, _, _, _, rfl, by simp [hl], fun x hx => ?_⟩
      · simp [drB, drwB, exs, exS, ev, evs, fin, getD?, ownD, biD, boolD, cmpD, ltD, binD, truD, fz, hr, hlim, setT, vn]
      · rcases List.mem_append.mp hx with z | z
        · exact hm x z
        · rw [List.mem_singleton.mp z]; exact mod_in _
    · refine ⟨[c, cn, some (true, .int rest), some (true, .bool dg), some (true, .int seed), some (true, .list (ds.map .int)), some (true, .int j), ms], [c, cn, some (true, .int rest), some (true, .bool dg), some (true, .int seed), some (true, .list ((ds ++ [mx2 seed j / 64 % 5040]).map .int)), some (true, .int j), some (true, .int (mx2 seed j))], by simp [setT, fz], .inl ?_, c, cn, _, _, _, _, _, _, rfl, by simp [hl], fun x hx => ?_⟩
      · exact body2 c cn rest seed dg ds j ms hc hlim (callD fns fu k) fu
      · rcases List.mem_append.mp hx with z | z
        · exact hm x z
        · rw [List.mem_singleton.mp z]; exact mod_in _
  obtain ⟨P, hP⟩ : ∃ P, binD .pow (.int 10) (.int 18) = some (true, .int P) := ⟨_, bin_pow⟩
  have h0 : InvD n 0 [some (p, .int c), some (q, .int n), some (true, .int (absI c)), some (true, .bool (!decide (absI c < P))), some (true, .int (absI c)), some (true, .list []), none, none] := ⟨_, _, _, _, _, [], _, _, rfl, rfl, fun x hx => nomatch hx⟩
  obtain ⟨ρ', e, cc, cn, rest, dg, seed, ds, ks, ms, rfl, hl, hm⟩ := loop _ h0
  rw [rng0, List.length_map, List.length_range, Nat.zero_add] at hl
  refine ⟨ds, hl, hm, ?_⟩
  refine call7 hf fu k _ _ _ [cc, cn, some (true, .int rest), some (true, .bool dg), some (true, .int seed), some (true, .list (ds.map .int)), ks, ms] ?_
  have s1 := init_ok c n p q (callD fns fu k) fu P hP
  refine s1.trans ?_
  have fe : exS (callD fns fu k) fu (.fore (.n 6) (.rng1 (.v 1)) drB) [some (p, .int c), some (q, .int n), some (true, .int (absI c)), some (true, .bool (!decide (absI c < P))), some (true, .int (absI c)), some (true, .list []), none, none] = some (Fl.next, [cc, cn, some (true, .int rest), some (true, .bool dg), some (true, .int seed), some (true, .list (ds.map .int)), ks, ms]) := by
    have hb : (n : Int) < 4611686018427387904 ∧ -4611686018427387904 ≤ (n : Int) := ⟨by omega, by omega⟩
    have hr : evi (callD fns fu k) (.rng1 (.v 1)) [some (p, .int c), some (q, .int n), some (true, .int (absI c)), some (true, .bool (!decide (absI c < P))), some (true, .int (absI c)), some (true, .list []), none, none] = some (true, rngD 0 n) := rng_ok (f := true) (by simp [ev, fin, getD?, fz]) hb
    exact (fore_ok hr).trans e
  refine (exs_next fe).trans ?_
  simp only [exs, exS, getD?, List.getElem?_cons_zero, List.getElem?_cons_succ, Bool.true_or]
def lZ (l : List Int) : D := .list (l.map .int)
@[simp] theorem fz_lZ (l : List Int) : fz (lZ l) = false := rfl
theorem ix_rows {n : Nat} {f : Nat → D} {i : Nat} (h : i < n) : ixD (.list ((List.range n).map f)) (.int (i : Int)) = some (fz (f i), f i) := ix_list (by simp [h])
theorem set_rows {n : Nat} {f : Nat → D} {i : Nat} {x : D} (h : i < n) : ((List.range n).map f).set i x = (List.range n).map fun j => if j = i then x else f j := by
  apply List.ext_getElem?
  intro j
  rw [List.getElem?_set, List.getElem?_map]
  by_cases hj : j < n
  · by_cases e : i = j
    · subst e; simp [h]
    · have : ¬ j = i := fun z => e z.symm
      simp [hj, e, this]
  · have : ¬ i = j := by omega
    simp [hj, this]
theorem lst_tZ (l : List Int) (p : Bool) : biD .list [(p, tZ l)] = some (true, lZ l) := by simp [biD, tZ, lZ]
theorem tup_lZ (l : List Int) (p : Bool) : biD .tuple [(p, lZ l)] = some (true, tZ l) := by simp [biD, tZ, lZ]
theorem len_lZ (l : List Int) (p : Bool) : biD .len [(p, lZ l)] = some (true, .int l.length) := by simp [biD, lZ]
theorem sll_0n (l : List Int) (b : Nat) : slD (lZ l) none (some (b : Int)) = some (true, lZ (l.take b)) := by
  simp only [slD, lZ, cut_0n, ← List.map_take, fzs_ints]
theorem sll_n0 (l : List Int) (b : Nat) : slD (lZ l) (some (b : Int)) none = some (true, lZ (l.drop b)) := by
  simp only [slD, lZ, cut_n0, ← List.map_drop, fzs_ints]
theorem add_lZ {a b : List Int} (h : a.length + b.length ≤ lim) : binD .add (lZ a) (lZ b) = some (true, lZ (a ++ b)) := by
  simp only [lZ, binD, List.length_map, if_pos h, ← List.map_append, fzs_ints]
theorem sl_0n (l : List Int) (b : Nat) : slD (tZ l) none (some (b : Int)) = some (true, tZ (l.take b)) := by
  simp only [slD, tZ, cut_0n, ← List.map_take, fzs_ints]
theorem sl_n0 (l : List Int) (b : Nat) : slD (tZ l) (some (b : Int)) none = some (true, tZ (l.drop b)) := by
  simp only [slD, tZ, cut_n0, ← List.map_drop, fzs_ints]
theorem sl_nn (l : List Int) (a b : Nat) : slD (tZ l) (some (a : Int)) (some (b : Int)) = some (true, tZ ((l.drop a).take (b - a))) := by
  simp only [slD, tZ, cut_nn, ← List.map_drop, ← List.map_take, fzs_ints]
theorem len_tZ (L : List Int) (p : Bool) : biD .len [(p, tZ L)] = some (true, .int L.length) := by simp [biD, tZ]
theorem add_tZ {a b : List Int} (h : a.length + b.length ≤ lim) : binD .add (tZ a) (tZ b) = some (true, tZ (a ++ b)) := by
  simp only [tZ, binD, List.length_map, if_pos h, ← List.map_append, fzs_ints]
theorem nil_tZ : PyData.tuple [] = tZ [] := rfl

abbrev Cal := Nat → List (Bool × D) → Option (Bool × D)
def DR (dr : Nat → Nat) : D := .list ((List.range 60).map fun i => nD (dr i))
theorem DR_of {ds : List Int} (hl : ds.length = 60) (h : ∀ x ∈ ds, 0 ≤ x ∧ x < 5040) : ∃ dr : Nat → Nat, (∀ i, dr i < 5040) ∧ PyData.list (ds.map .int) = DR dr := by
  refine ⟨fun i => (ds.getD i 0).toNat, fun i => ?_, ?_⟩
  · by_cases hi : i < ds.length
    · have := h ds[i] (List.getElem_mem hi)
      simp [hi]
      omega
    · simp [hi]
  · unfold DR
    congr 1
    apply List.ext_getElem?
    intro i
    by_cases hi : i < ds.length
    · have h2 := h ds[i] (List.getElem_mem hi)
      have : i < 60 := by omega
      simp [hi, this, nD]
      omega
    · have : ¬ i < 60 := by omega
      simp [hi, this]
theorem ix_DR (dr : Nat → Nat) {i : Nat} (h : i < 60) : ixD (DR dr) (.int (i : Int)) = some (true, nD (dr i)) := ix_rows (f := fun i => nD (dr i)) h
section
variable {cal : Cal}
/-- int(draws[..]) -/
theorem draw_ev {dr : Nat → Nat} {ρ : Ev} {p q : Bool} {i : Nat} {e : E} (h1 : ρ[1]? = some (some (q, DR dr))) (h : ev cal e false ρ = some (p, .int (i : Nat))) (hi : i < 60) : ev cal (.bi .int (.cons (.ix (.v 1) e) .nil)) false ρ = some (true, nD (dr i)) :=
  bi1 (ix_ev (v_ev h1) h (ix_DR dr hi)) rfl
end
section
variable {cal : Cal}
theorem sll_nn (l : List Int) (a b : Nat) : slD (lZ l) (some (a : Int)) (some (b : Int)) = some (true, lZ ((l.drop a).take (b - a))) := by
  simp only [slD, lZ, cut_nn, ← List.map_drop, ← List.map_take, fzs_ints]
theorem sl_ev {a l h : E} {ρ : Ev} {p q r : Bool} {x : D} {i j : Int} {w : Bool × D} (h1 : ev cal a false ρ = some (p, x)) (h2 : ev cal l false ρ = some (q, .int i)) (h3 : ev cal h false ρ = some (r, .int j)) (e : slD x (some i) (some j) = some w) : ev cal (.sl a (.so l) (.so h)) false ρ = some w := by
  simp only [ev, evo, h1, h2, h3, optI, e, fin, Bool.false_eq_true, if_false]
theorem app_ok {fu i : Nat} {e : E} {ρ : Ev} {xs : List D} {d : D} (ho : ownD ρ i = some (.list xs)) (h : ev cal e false ρ = some (true, d)) (hl : xs.length < lim) : exS cal fu (.app i e) ρ = some (.next, ρ.set i (some (true, .list (xs ++ [d])))) := by
  simp only [exS, ho, h, if_pos hl]
theorem asgv_ok {fu i : Nat} {e : E} {ρ : Ev} {d : D} (h : ev cal e false ρ = some (true, d)) (hi : i < ρ.length) : exS cal fu (.asg (.n i) e) ρ = some (.next, ρ.set i (some (true, d))) := asgn_ok h hi
theorem sum_take (S : List Nat) {i : Nat} (h : i < S.length) : (S.take (i + 1)).sum = (S.take i).sum + S[i] := by
  rw [List.take_succ_eq_append_getElem h, List.sum_append_nat]; simp
theorem sum_take_le : ∀ (S : List Nat) (i : Nat), (S.take i).sum ≤ S.sum
  | [], i => by simp
  | x :: r, 0 => by simp
  | x :: r, i + 1 => by
    have := sum_take_le r i
    simp; omega
end
theorem eqD_self (S : List Nat) : eqD (.list (S.map nD)) (.list (S.map nD)) = some true := by
  rw [eqn_ints, eq_ints]
  simp
theorem in_tZ (t : Int) (l : List Int) : cmpD .inn (.int t) (tZ l) = some (decide (t ∈ l)) := in_ints t l
theorem flt_one {n p : Nat} {q : Nat → Bool} (hp : p < n) (h : ∀ j, j < n → (q j = true ↔ j = p)) : (List.range n).filter q = [p] := by
  induction n with
  | zero => omega
  | succ n ih =>
    rw [List.range_succ, List.filter_append]
    by_cases e : p = n
    · have h0 : (List.range n).filter q = [] := List.filter_eq_nil_iff.mpr fun j hj hq => by
        have hj := List.mem_range.mp hj
        have := (h j (by omega)).mp hq
        omega
      have h1 : q n = true := (h n (by omega)).mpr e.symm
      rw [h0, List.filter_cons, if_pos h1, e]
      rfl
    · have h1 : ¬ q n = true := fun z => e ((h n (by omega)).mp z).symm
      rw [ih (by omega) fun j hj => h j (by omega), List.filter_cons, if_neg h1]
      rfl

/-- data without lists and dicts, at most n deep -/
inductive Pln : Nat → D → Prop
  | none {n : Nat} : Pln n .none
  | bool {n : Nat} (b : Bool) : Pln n (.bool b)
  | int {n : Nat} (i : Int) : Pln n (.int i)
  | str {n : Nat} (s : Str) : Pln n (.str s)
  | tup {n : Nat} {xs : List D} : xs.length ≤ lim → (∀ x ∈ xs, Pln n x) → Pln (n + 1) (.tuple xs)
theorem Pln.tZ (n : Nat) (l : List Int) (h : l.length ≤ lim) : Pln (n + 1) (tZ l) := .tup (by rw [List.length_map]; exact h) fun x hx => by
  obtain ⟨i, _, rfl⟩ := List.mem_map.mp hx
  exact .int i
section
variable {fns : List Fn} {c8 c9 : Nat} (h8 : fns[c8]? = some ⟨1, 1, intB⟩) (h9 : fns[c9]? = some ⟨2, 3, lisB c8 c9⟩) (fu k : Nat)
include h8 h9
theorem is_leaf (k : Nat) {d : D} (hd : ∀ n, Pln n d) (p q : Bool) : callD fns fu (k + 2) c9 [(p, d), (q, d)] = some (true, .bool true) := by
  have e8 : ∀ p i, callD fns fu (k + 1) c8 [(p, .int i)] = some (true, .bool true) := fun p i => by
    simp [callD, h8, intB, exs, exS, ev, evs, fin, getD?, biD, truD, fz, boolD, isaD, tyD]
  refine calls_ok (ρ := [some (p, d), some (q, d), none]) h9 ⟨rfl, by decide⟩ ?_
  generalize callD fns fu (k + 1) = cal at e8 ⊢
  cases hd 0 with
  | none => simp [lisB, exs, exS, ev, evs, fin, getD?, biD, truD, fz, boolD, cmpD, eqD, isaD, tyD, e8]
  | bool b => simp [lisB, exs, exS, ev, evs, fin, getD?, biD, truD, fz, boolD, cmpD, eqD, isaD, tyD, e8]
  | int b => simp [lisB, exs, exS, ev, evs, fin, getD?, biD, truD, fz, boolD, cmpD, eqD, isaD, tyD, e8]
  | str b => simp [lisB, exs, exS, ev, evs, fin, getD?, biD, truD, fz, boolD, cmpD, eqD, isaD, tyD, e8]
theorem is_self : ∀ (n k : Nat) {d : D}, Pln n d → ∀ p q, callD fns fu (k + n + 2) c9 [(p, d), (q, d)] = some (true, .bool true)
  | n, k, _, .none, p, q => is_leaf h8 h9 fu (k + n) (fun _ => .none) p q
  | n, k, _, .bool b, p, q => is_leaf h8 h9 fu (k + n) (fun _ => .bool b) p q
  | n, k, _, .int b, p, q => is_leaf h8 h9 fu (k + n) (fun _ => .int b) p q
  | n, k, _, .str b, p, q => is_leaf h8 h9 fu (k + n) (fun _ => .str b) p q
  | n + 1, k, _, .tup (xs := xs) hn hx, p, q => by
    have h := fun x hm => is_self n k (hx x hm)
    refine calls_ok (ρ := [some (p, .tuple xs), some (q, .tuple xs), none]) h9 ⟨rfl, by decide⟩ ?_
    show exs (callD fns fu (k + n + 2)) fu (lisB c8 c9) [some (p, .tuple xs), some (q, .tuple xs), none] = _
    generalize callD fns fu (k + n + 2) = cal at h ⊢
    refine (skip_ok (o := true) ?_).trans ?_
    · simp [ev, fin, getD?, truD, boolD, cmpD]
    refine (skip_ok (o := true) ?_).trans ?_
    · simp [ev, evs, fin, getD?, truD, boolD, biD, isaD, tyD]
    refine (skip_ok (o := true) ?_).trans ?_
    · simp [ev, evs, fin, getD?, truD, boolD, biD, isaD, tyD]
    refine (skip_ok (o := true) ?_).trans ?_
    · simp [ev, evs, fin, getD?, truD, boolD, biD, isaD, tyD]
    refine (skip_ok (o := true) ?_).trans ?_
    · simp [ev, evs, fin, getD?, truD, boolD, biD, isaD, tyD, cmpD, eqD]
    have hlen : ev cal (.bi .len (.cons (.v 1) .nil)) false [some (p, .tuple xs), some (q, .tuple xs), none] = some (true, .int xs.length) := by
      simp [ev, evs, fin, getD?, biD]
    have hr := rng_T hlen hn
    have e := lc_T (enc := nD) (val := fun _ => .bool true) (cal := cal) (elt := .cal c9 (.cons (.ix (.v 0) (.v 2)) (.cons (.ix (.v 1) (.v 2)) .nil))) (t := .n 2) (own := [2]) hr (by rw [List.length_range]; exact hn) fun j hj => by
      have hj := List.mem_range.mp hj
      have hx : xs[j]? = some xs[j] := List.getElem?_eq_getElem hj
      exact ⟨[some (p, .tuple xs), some (q, .tuple xs), some (true, nD j)], by simp [setT, wipeE, nD], cal2 (ix_ev (v_ev rfl) (v_ev rfl) (ix_tup hx)) (ix_ev (v_ev rfl) (v_ev rfl) (ix_tup hx)) (h _ (List.getElem_mem hj) _ _)⟩
    exact ret_ok (bi1 e (all_true _ _))
end

/-! ### natural numbers -/
def tN (l : List Nat) : D := .tuple (l.map nD)
def lN (l : List Nat) : D := .list (l.map nD)
@[simp] theorem fz_nD (i : Nat) : fz (nD i) = true := rfl
@[simp] theorem fzs_nDs (l : List Nat) : fzs (l.map nD) = true := fzs_map _ _ fun _ => rfl
@[simp] theorem fz_tN (l : List Nat) : fz (tN l) = true := by rw [tN, fz, fzs_nDs]
@[simp] theorem fz_lN (l : List Nat) : fz (lN l) = false := rfl
@[simp] theorem fzs_tNs (L : List (List Nat)) : fzs (L.map tN) = true := fzs_map _ _ fz_tN
def TN (L : List (List Nat)) : D := .tuple (L.map tN)
@[simp] theorem fz_TN (L : List (List Nat)) : fz (TN L) = true := by rw [TN, fz, fzs_tNs]
theorem eqv_nD (x y : Nat) : PyData.eqv (nD x) (nD y) = decide (x = y) := by
  unfold nD
  rw [eqv_int]
  exact decide_eq_decide.mpr (by omega)
theorem shp_nD (n : Nat) (i : Nat) : shp n (nD i) := shp_int n _
theorem sh_lN (l : List Nat) : SeqAt.shaped (lN l) = true := shp_sh (shp_list (n := 0) (shp_map (shp_nD 0))) (by decide)
theorem sh_tN (l : List Nat) : SeqAt.shaped (tN l) = true := shp_sh (shp_tup (n := 0) (shp_map (shp_nD 0))) (by decide)
theorem in_lst (t : Nat) (l : List Nat) : inD (nD t) (l.map nD) = some (decide (t ∈ l)) := by
  unfold inD
  rw [show SeqAt.shaped (nD t) = true from sh_int _, show SeqAt.shaped (.list (l.map nD)) = true from sh_lN l, any_eqv eqv_nD]
  rfl
theorem in_tN (t : Nat) (l : List Nat) : cmpD .inn (nD t) (tN l) = some (decide (t ∈ l)) := in_lst t l
theorem in_lN (t : Nat) (l : List Nat) : cmpD .inn (nD t) (lN l) = some (decide (t ∈ l)) := in_lst t l
theorem ix_tN {l : List Nat} {i x : Nat} (h : l[i]? = some x) : ixD (tN l) (.int (i : Int)) = some (true, nD x) := ix_tup (xs := l.map nD) (x := nD x) (by rw [List.getElem?_map, h]; rfl)
theorem ix_lN {l : List Nat} {i x : Nat} (h : l[i]? = some x) : ixD (lN l) (.int (i : Int)) = some (true, nD x) := ix_list (xs := l.map nD) (x := nD x) (by rw [List.getElem?_map, h]; rfl)
theorem ix_TN {L : List (List Nat)} {i : Nat} {x : List Nat} (h : L[i]? = some x) : ixD (TN L) (.int (i : Int)) = some (true, tN x) := by
  have := ix_tup (xs := L.map tN) (x := tN x) (i := i) (by rw [List.getElem?_map, h]; rfl)
  rwa [fz_tN] at this
theorem len_tN (l : List Nat) (p : Bool) : biD .len [(p, tN l)] = some (true, .int l.length) := by simp [biD, tN]
theorem len_lN (l : List Nat) (p : Bool) : biD .len [(p, lN l)] = some (true, .int l.length) := by simp [biD, lN]
theorem len_TN (l : List (List Nat)) (p : Bool) : biD .len [(p, TN l)] = some (true, .int l.length) := by simp [biD, TN]
theorem sum_lN (S : List Nat) (p : Bool) : biD .sum [(p, lN S)] = some (true, nD S.sum) := sum_nD S p
theorem sum_tN (S : List Nat) (p : Bool) : biD .sum [(p, tN S)] = some (true, nD S.sum) := by
  simp only [biD, tN, eqn_ints, intsD_map, Option.map_some, sum_cast]
  rfl
theorem slN_nn (l : List Nat) (a b : Nat) : slD (tN l) (some (a : Int)) (some (b : Int)) = some (true, tN ((l.drop a).take (b - a))) := by
  simp only [slD, tN, cut_nn, ← List.map_drop, ← List.map_take, fzs_nDs]
theorem slN_0n (l : List Nat) (b : Nat) : slD (tN l) none (some (b : Int)) = some (true, tN (l.take b)) := by
  simp only [slD, tN, cut_0n, ← List.map_take, fzs_nDs]
theorem slN_n0 (l : List Nat) (b : Nat) : slD (tN l) (some (b : Int)) none = some (true, tN (l.drop b)) := by
  simp only [slD, tN, cut_n0, ← List.map_drop, fzs_nDs]
theorem tup_lN (l : List Nat) (p : Bool) : biD .tuple [(p, lN l)] = some (true, tN l) := by simp [biD, tN, lN]
theorem tup_tN (l : List Nat) (p : Bool) : biD .tuple [(p, tN l)] = some (true, tN l) := by simp [biD, tN]
theorem lst_tN (l : List Nat) (p : Bool) : biD .list [(p, tN l)] = some (true, lN l) := by simp [biD, tN, lN]
theorem add_tN {a b : List Nat} (h : a.length + b.length ≤ lim) : binD .add (tN a) (tN b) = some (true, tN (a ++ b)) := by
  simp only [tN, binD, List.length_map, if_pos h, ← List.map_append, fzs_nDs]
theorem add_nD (i j : Nat) : binD .add (nD i) (nD j) = some (true, nD (i + j)) := rfl
theorem eq_tN (a b : List Nat) : eqD (tN a) (tN b) = some (decide (a = b)) := by
  unfold eqD tN
  have h1 := sh_tN a
  have h2 := sh_tN b
  unfold tN at h1 h2
  simp only [h1, h2, Bool.and_self, if_true, PyData.eqv, eqvAll_map eqv_nD]
theorem eq_nD (a b : Nat) : eqD (nD a) (nD b) = some (decide (a = b)) := by
  unfold eqD nD
  exact congrArg some (decide_eq_decide.mpr (by omega))
theorem sort_lN {l s : List Nat} (hp : l.Perm s) (hs : s.Pairwise (· ≤ ·)) (hl : l.length ≤ lim) : sortD (l.map nD) = some (s.map nD) := by
  rw [eqn_ints, eqn_ints]
  refine sortD_ints (hp.map _) ?_ (by rw [List.length_map]; exact hl)
  rw [List.pairwise_map]
  exact hs.imp fun h => by omega
theorem range_le (n : Nat) : (List.range n).Pairwise (· ≤ ·) := List.pairwise_lt_range.imp fun h => Nat.le_of_lt h
theorem Pln.tN (n : Nat) (l : List Nat) (h : l.length ≤ lim) : Pln (n + 1) (tN l) := .tup (by rw [List.length_map]; exact h) fun x hx => by
  obtain ⟨i, _, rfl⟩ := List.mem_map.mp hx
  exact .int _
theorem Pln.nD (n i : Nat) : Pln n (nD i) := .int _
/-- pops of all, in any order: natural numbers -/
theorem popL_permN {i : Nat} {st : D → Ev → Option Ev} {k : Ev → Option (Bool × D)} {w : Ev → Ev} {ρ : Ev} {ds : List D} {xs : List Nat} (hl : ds.length = xs.length) (h : ∀ d ∈ ds, ∀ m : Nat, 0 < m → ∀ ys : List D, ys.length = m → ∃ ρ' o, ∃ j : Nat, st d (w (ρ.set i (some (true, .list ys)))) = some ρ' ∧ k ρ' = some (o, .int (j : Int)) ∧ j < m) : ∃ zs : List Nat, popL i st k w ρ ds (xs.map nD) = some (zs.map nD, []) ∧ zs.Perm xs := by
  obtain ⟨zs, h1, h2⟩ := popL_perm (i := i) (st := st) (k := k) (w := w) (ρ := ρ) (ds := ds) (xs := xs.map fun (j : Nat) => (j : Int)) (by rw [List.length_map]; exact hl) fun d hd ys hy _ => by
    obtain ⟨ρ', o, j, a1, a2, a3⟩ := h d hd ys.length (List.length_pos_iff.mpr hy) (ys.map .int) (by simp)
    exact ⟨ρ', o, j, a1, a2, a3⟩
  have h3 : ∀ z ∈ zs, ∃ j : Nat, z = (j : Int) := fun z hz => by
    obtain ⟨j, _, e⟩ := List.mem_map.mp (h2.mem_iff.mp hz)
    exact ⟨j, e.symm⟩
  have h4 : (zs.map Int.toNat).map (fun (j : Nat) => (j : Int)) = zs := by
    rw [List.map_map]
    refine (List.map_congr_left fun z hz => ?_).trans (List.map_id zs)
    obtain ⟨j, rfl⟩ := h3 z hz
    rfl
  refine ⟨zs.map Int.toNat, ?_, ?_⟩
  · rw [eqn_ints, eqn_ints, h4]
    exact h1
  · have := h2.map Int.toNat
    rw [List.map_map] at this
    have e : xs.map (Int.toNat ∘ fun (j : Nat) => (j : Int)) = xs := (List.map_congr_left fun z _ => rfl).trans (List.map_id xs)
    rwa [e] at this

/-! ### dicts of natural numbers -/
def dI (ps : List (Nat × Nat)) : List (D × D) := ps.map fun p => (nD p.1, nD p.2)
theorem tk_dI (ps : List (Nat × Nat)) : tk (dI ps) = false := by cases ps <;> rfl
theorem scr_dI (ps : List (Nat × Nat)) : scrOf (dI ps) = none := by
  match ps with
  | [] => rfl
  | [p] => rfl
  | p :: q :: r => rfl
theorem key_dI (ps : List (Nat × Nat)) (t : Nat) : keyFor (dI ps) (nD t) = true := by
  unfold keyFor
  rw [tk_dI]
  rfl
theorem get_dI : ∀ (ps : List (Nat × Nat)) (t : Nat), dGet (dI ps) (nD t) = (ps.find? fun p => p.1 == t).map fun p => nD p.2
  | [], _ => rfl
  | p :: r, t => by
    have ih := get_dI r t
    unfold dGet dI at ih ⊢
    rw [List.map_cons, List.find?_cons, List.find?_cons, eqv_nD]
    by_cases h : p.1 = t
    · simp [h]
    · have : (p.1 == t) = false := by simpa using h
      simp only [h, decide_false, this]
      exact ih
theorem put_dI {ps : List (Nat × Nat)} {t : Nat} (v : Nat) (h : t ∉ ps.map (·.1)) : dPut (dI ps) (nD t) (nD v) = dI (ps ++ [(t, v)]) := by
  unfold dPut
  have : ((dI ps).any fun p => PyData.eqv p.1 (nD t)) = false := by
    rw [List.any_eq_false]
    intro p hp
    obtain ⟨q, hq, rfl⟩ := List.mem_map.mp hp
    rw [eqv_nD]
    simp only [decide_eq_true_eq]
    exact fun z => h (List.mem_map.mpr ⟨q, hq, z⟩)
  rw [this]
  simp [dI]
theorem ix_dI {ps : List (Nat × Nat)} {t v : Nat} (h : ps.find? (fun p => p.1 == t) = some (t, v)) : ixD (.dict (dI ps)) (nD t) = some (true, nD v) := by
  simp only [ixD, scr_dI, key_dI, if_true, get_dI, h, Option.map_some]
  rfl
theorem sorted_dI {ps : List (Nat × Nat)} {s : List Nat} (hp : (ps.map (·.1)).Perm s) (hs : s.Pairwise (· ≤ ·)) (hl : ps.length ≤ lim) (p : Bool) : biD .sorted [(p, .dict (dI ps))] = some (true, lN s) := by
  have e : (dI ps).map (·.1) = (ps.map (·.1)).map nD := by simp [dI]
  simp only [biD, scr_dI, tk_dI, and_self, if_true, e, sort_lN hp hs (by rw [List.length_map]; exact hl), Option.map_some]
  rfl
/-- a dict comprehension whose keys are all new -/
theorem dcD_T {α : Type} {enc : α → D} {kv : α → Nat × Nat} {st : D → Ev → Option Ev} {te ke va : Ev → Option (Bool × D)} {ρ : Ev} : ∀ {L : List α} {acc : List (Nat × Nat)}, ((acc ++ L.map kv).map (·.1)).Nodup → (∀ a ∈ L, ∃ ρ' o o', st (enc a) ρ = some ρ' ∧ te ρ' = some (o, .bool true) ∧ ke ρ' = some (o', nD (kv a).1) ∧ va ρ' = some (true, nD (kv a).2)) → dcD st te ke va ρ (L.map enc) true (dI acc) = some (true, dI (acc ++ L.map kv))
  | [], acc, _, _ => by simp [dcD]
  | a :: r, acc, hn, h => by
    obtain ⟨ρ', o, o', h1, h2, h3, h4⟩ := h a (List.mem_cons_self ..)
    have hn' : (((acc ++ [kv a]) ++ r.map kv).map (·.1)).Nodup := by simpa using hn
    have ih := dcD_T (L := r) (acc := acc ++ [kv a]) hn' fun b hb => h b (List.mem_cons_of_mem _ hb)
    have hk : (kv a).1 ∉ acc.map (·.1) := fun z => by
      rw [List.map_append, List.nodup_append] at hn
      exact hn.2.2 _ z _ (by simp) rfl
    have ok : putOk (dI acc) (nD (kv a).1) (nD (kv a).2) = true := by
      unfold putOk
      rw [key_dI, fz_nD]
      rfl
    simp only [List.map_cons, dcD, h1, h2, h3, h4, ok, if_true, put_dI _ hk, Bool.and_self]
    rw [ih]
    simp
theorem dc_T {α : Type} {enc : α → D} {kv : α → Nat × Nat} {L : List α} {cal : Cal} {key val : E} {t : T} {src : I} {own : List Nat} {ρ : Ev} {f : Bool} (hs : evi cal src ρ = some (f, L.map enc)) (hl : L.length ≤ lim) (hn : ((L.map kv).map (·.1)).Nodup) (h : ∀ a ∈ L, ∃ ρ' o, setT t false (enc a) (wipeE ρ own) = some ρ' ∧ ev cal key false ρ' = some (o, nD (kv a).1) ∧ ev cal val false ρ' = some (true, nD (kv a).2)) :
    ev cal (.dc false key val t src .no own) false ρ = some (true, .dict (dI (L.map kv))) := by
  have this := dcD_T (enc := enc) (kv := kv) (st := fun d ρ => setT t false d ρ) (te := fun ρ => evt cal .no ρ) (ke := fun ρ => ev cal key false ρ) (va := fun ρ => ev cal val false ρ) (ρ := wipeE ρ own) (L := L) (acc := []) (by simpa using hn) fun x hx => by
    obtain ⟨ρ', o, h1, h2, h3⟩ := h x hx
    exact ⟨ρ', true, o, h1, by simp only [evt], h2, h3⟩
  have hl2 : (L.map enc).length ≤ lim := by rw [List.length_map]; exact hl
  have e0 : dI [] = [] := rfl
  rw [List.nil_append, e0] at this
  simp only [ev, hs, this, fin, if_pos hl2, Bool.false_eq_true, if_false]
/-- an entry of a dict that is new -/
theorem set1_dI {cal : Cal} {fu i : Nat} {k e : E} {ρ : Ev} {ps : List (Nat × Nat)} {t v : Nat} {o : Bool} (ho : ownD ρ i = some (.dict (dI ps))) (hk : ev cal k false ρ = some (o, nD t)) (he : ev cal e false ρ = some (true, nD v)) (hn : t ∉ ps.map (·.1)) (hl : ps.length < lim) : exS cal fu (.set1 i k e) ρ = some (.next, ρ.set i (some (true, .dict (dI (ps ++ [(t, v)]))))) := by
  have ok : putOk (dI ps) (nD t) (nD v) = true := by
    unfold putOk
    rw [key_dI, fz_nD]
    rfl
  have hl2 : (dI ps).length < lim := by unfold dI; rw [List.length_map]; exact hl
  simp only [exS, he, hk, ho, ok, hl2, scr_dI, and_self, if_true, put_dI _ hn]
/-- an item of a list of natural numbers -/
theorem set1_lst {cal : Cal} {fu i : Nat} {k e : E} {ρ : Ev} {xs : List D} {t : Nat} {d : D} {o : Bool} (ho : ownD ρ i = some (.list xs)) (hk : ev cal k false ρ = some (o, nD t)) (he : ev cal e false ρ = some (true, d)) (hl : t < xs.length) : exS cal fu (.set1 i k e) ρ = some (.next, ρ.set i (some (true, .list (xs.set t d)))) := by
  have := ixN_nat hl
  simp only [exS, he, hk, ho, nD, this]

/-- draws: m numbers below 5040 -/
def DM (dr : Nat → Nat) (m : Nat) : D := .list ((List.range m).map fun i => nD (dr i))
theorem DM_of {ds : List Int} {m : Nat} (hl : ds.length = m) (h : ∀ x ∈ ds, 0 ≤ x ∧ x < 5040) : ∃ dr : Nat → Nat, (∀ i, dr i < 5040) ∧ PyData.list (ds.map .int) = DM dr m := by
  refine ⟨fun i => (ds.getD i 0).toNat, fun i => ?_, ?_⟩
  · by_cases hi : i < ds.length
    · have := h ds[i] (List.getElem_mem hi)
      simp [hi]
      omega
    · simp [hi]
  · unfold DM
    congr 1
    apply List.ext_getElem?
    intro i
    by_cases hi : i < ds.length
    · have h2 := h ds[i] (List.getElem_mem hi)
      have : i < m := by omega
      simp [hi, this, nD]
      omega
    · have : ¬ i < m := by omega
      simp [hi, this]
theorem drawsM {fns : List Fn} {f : Nat} (hf : fns[f]? = some ⟨2, 8, drwB⟩) (c : Int) (m : Nat) (hm : m ≤ 1000) (p q : Bool) (fu k : Nat) : ∃ dr : Nat → Nat, (∀ i, dr i < 5040) ∧ callD fns fu (k + 1) f [(p, .int c), (q, nD m)] = some (true, DM dr m) := by
  obtain ⟨ds, h1, h2, h3⟩ := draws_ok hf c m hm p q fu k
  obtain ⟨dr, h4, h5⟩ := DM_of h1 h2
  exact ⟨dr, h4, by rw [← h5]; exact h3⟩
theorem ix_DM (dr : Nat → Nat) {m i : Nat} (h : i < m) : ixD (DM dr m) (.int (i : Int)) = some (true, nD (dr i)) := ix_rows (f := fun i => nD (dr i)) h
@[simp] theorem fz_DM (dr : Nat → Nat) (m : Nat) : fz (DM dr m) = false := rfl
/-- int(draws[..]) -/
theorem drawM_ev {cal : Cal} {dr : Nat → Nat} {ρ : Ev} {p q : Bool} {i m v : Nat} {e : E} (h1 : ρ[v]? = some (some (q, DM dr m))) (h : ev cal e false ρ = some (p, .int (i : Nat))) (hi : i < m) : ev cal (.bi .int (.cons (.ix (.v v) e) .nil)) false ρ = some (true, nD (dr i)) :=
  bi1 (ix_ev (v_ev h1) h (ix_DM dr hi)) rfl
theorem ixN_last (m : Nat) : ixN (m + 1) (-1) = some m := by
  unfold ixN
  rw [if_neg (by omega), if_pos (by omega)]
  congr 1
  omega
theorem ix_last (xs : List D) (x : D) : ixD (.list (xs ++ [x])) (.int (-1)) = some (fz x, x) := by
  have : atI (xs ++ [x]) (-1) = some x := by
    unfold atI
    rw [List.length_append, List.length_singleton, ixN_last]
    simp
  simp only [ixD, this, Option.map_some]
theorem set1_last {cal : Cal} {fu i : Nat} {k e : E} {ρ : Ev} {xs : List D} {x d : D} {o : Bool} (ho : ownD ρ i = some (.list (xs ++ [x]))) (hk : ev cal k false ρ = some (o, .int (-1))) (he : ev cal e false ρ = some (true, d)) : exS cal fu (.set1 i k e) ρ = some (.next, ρ.set i (some (true, .list (xs ++ [d])))) := by
  have h : ixN (xs ++ [x]).length (-1) = some xs.length := by rw [List.length_append, List.length_singleton, ixN_last]
  have h2 : (xs ++ [x]).set xs.length d = xs ++ [d] := by simp
  simp only [exS, he, hk, ho, h, h2]
theorem m1_ev {cal : Cal} {ρ : Ev} : ev cal (.neg (.k (.int 1))) false ρ = some (true, .int (-1)) := by
  simp only [ev, fin, Bool.false_eq_true, if_false]
theorem srtN (l : List Nat) : (l.mergeSort fun a b => decide (a ≤ b)).Perm l ∧ (l.mergeSort fun a b => decide (a ≤ b)).Pairwise (· ≤ ·) :=
  ⟨List.mergeSort_perm l _, (List.pairwise_mergeSort (fun a b c h h' => by simp at *; omega) (fun a b => by simp; omega) l).imp fun h => by simpa using h⟩
theorem flat_perm {α : Type} {f : List α → List α} : ∀ (F : List (List α)), (∀ g ∈ F, (f g).Perm g) → (F.map f).flatten.Perm F.flatten
  | [], _ => .refl _
  | g :: r, h => by
    rw [List.map_cons, List.flatten_cons, List.flatten_cons]
    exact (h g (List.mem_cons_self ..)).append (flat_perm r fun x hx => h x (List.mem_cons_of_mem _ hx))
theorem rngL_ev {cal : Cal} {ρ : Ev} {e : E} {n : Nat} {p : Bool} (h : ev cal e false ρ = some (p, .int (n : Int))) (hn : n ≤ 1000) : ev cal (.bi .listRng1 (.cons e .nil)) false ρ = some (true, lN (List.range n)) := by
  refine bi1 h ?_
  simp only [biD]
  rw [if_pos (by omega), rng_0]
  rfl
/-- one of a tuple's items, by a draw -/
theorem pick_ev {cal : Cal} {ρ : Ev} {es : Es} {e : E} {ps : List (Bool × D)} {i : Nat} {p : Bool} {x : Bool × D} (h : evs cal es ρ = some ps) (hl : ps.length ≤ lim) (h2 : ev cal e false ρ = some (p, .int (i : Int))) (hx : ps[i]? = some x) (hf : fz x.2 = true) : ev cal (.ix (.tup es) e) false ρ = some (true, x.2) := by
  have := ix_tup (xs := ps.map (·.2)) (x := x.2) (i := i) (by rw [List.getElem?_map, hx]; rfl)
  rw [hf] at this
  exact ix_ev (tup_ev h hl) h2 this
end Den

set_option Elab.async false
set_option linter.all false
set_option maxRecDepth 100000
/-! DenW: steps by rules, for tactics: expressions whose truth is not yet known, comprehensions over one name, statements by what holds behind them. -/
namespace Den
open PySem PySem.Spec PyProof.Rows L2 RZ
section
variable {cal : Cal} {ρ : Ev} {p q r o : Bool} {a b c : E} {x y z : D} {w : Bool × D}
theorem an_b {m u v : Bool} (h : ev cal a m ρ = some (p, .bool u)) (h2 : u = true → ev cal b m ρ = some (true, .bool v)) : ev cal (.an a b) m ρ = some (true, .bool (u && v)) := by
  cases u with
  | false => exact an_f h
  | true => rw [an_t h rfl, h2 rfl, Bool.true_and]
theorem ro_b {m u v : Bool} (h : ev cal a m ρ = some (p, .bool u)) (h2 : u = false → ev cal b m ρ = some (true, .bool v)) : ev cal (.ro a b) m ρ = some (true, .bool (u || v)) := by
  cases u with
  | true => exact ro_t h
  | false => rw [ro_f h rfl, h2 rfl, Bool.false_or]
theorem ite_b {m u : Bool} {w1 w2 : D} (h : ev cal c true ρ = some (p, .bool u)) (h1 : u = true → ev cal a m ρ = some (true, w1)) (h2 : u = false → ev cal b m ρ = some (true, w2)) : ev cal (.ite c a b) m ρ = some (true, if u = true then w1 else w2) := by
  cases u with
  | true => rw [ite_t h (h1 rfl)]; rfl
  | false => rw [ite_f h (h2 rfl)]; rfl
theorem v_b {i : Nat} {u : Bool} (h : ρ[i]? = some (some (p, .bool u))) : ev cal (.v i) true ρ = some (true, .bool u) := by
  simp only [ev, getD?, h, fin, Option.map_some, truD, if_true]
theorem v_bf {i : Nat} {u : Bool} (h : ρ[i]? = some (some (p, .bool u))) : ev cal (.v i) false ρ = some (true, .bool u) := v_ev h
theorem v_lst {i : Nat} {xs : List D} (h : ρ[i]? = some (some (p, .list xs))) : ev cal (.v i) true ρ = some (true, .bool (!xs.isEmpty)) := by
  simp only [ev, getD?, h, fin, Option.map_some, truD, if_true]
theorem bi_t {f : Bi} {es : Es} {v : Bool} (h : ev cal (.bi f es) false ρ = some (p, .bool v)) : ev cal (.bi f es) true ρ = some (true, .bool v) := by
  simp only [ev, fin, Bool.false_eq_true, if_false] at h
  simp only [ev, fin, h, if_true, truD, Option.map_some]
theorem cal_t {f : Nat} {es : Es} {v : Bool} (h : ev cal (.cal f es) false ρ = some (p, .bool v)) : ev cal (.cal f es) true ρ = some (true, .bool v) := as_t f h
theorem ga_t {al : Bool} {elt : E} {t : T} {src : I} {ifs : Eo} {own : List Nat} {v : Bool} (h : ev cal (.ga al elt t src ifs own) false ρ = some (p, .bool v)) : ev cal (.ga al elt t src ifs own) true ρ = some (true, .bool v) := by
  simp only [ev, fin, Bool.false_eq_true, if_false] at h
  simp only [ev, fin, h, if_true, truD, Option.map_some]
theorem lc_t {elt : E} {t : T} {src : I} {ifs : Eo} {own : List Nat} {xs : List D} (h : ev cal (.lc elt t src ifs own) false ρ = some (p, .list xs)) : ev cal (.lc elt t src ifs own) true ρ = some (true, .bool (!xs.isEmpty)) := by
  simp only [ev, fin, Bool.false_eq_true, if_false] at h
  simp only [ev, fin, h, if_true, truD, Option.map_some]
theorem bin_n {m : Bool} {f : Bo} {i : Int} (h : ev cal (.bin f a b) false ρ = some (p, .int i)) : ev cal (.bin f a b) true ρ = some (true, .bool (i != 0)) := by
  simp only [ev, fin, Bool.false_eq_true, if_false] at h
  simp only [ev, fin, h, if_true, truD, Option.map_some]
theorem k_n (n : Nat) : ev cal (.k (.int (n : Int))) false ρ = some (true, nD n) := k_ev
theorem k_n2 {d : D} {n : Nat} (h : d = nD n) : ev cal (.k d) false ρ = some (true, nD n) := by subst h; exact k_ev
theorem k_lit {n : Nat} : ev cal (.k (.int (@OfNat.ofNat Int n instOfNat))) false ρ = some (true, nD (@OfNat.ofNat Nat n (instOfNatNat n))) := k_ev
theorem v_nD {i n : Nat} (h : ρ[i]? = some (some (p, nD n))) : ev cal (.v i) false ρ = some (true, nD n) := v_n h
theorem lst0 : ev cal (.lst .nil) false ρ = some (true, .list []) := lst_ev evs_n (by decide)
theorem lst1 (h : ev cal a false ρ = some (true, x)) : ev cal (.lst (.cons a .nil)) false ρ = some (true, .list [x]) := lst_ev (evs_c h evs_n) (show 1 ≤ 16777216 by omega)
theorem lst2 (h : ev cal a false ρ = some (true, x)) (h2 : ev cal b false ρ = some (true, y)) : ev cal (.lst (.cons a (.cons b .nil))) false ρ = some (true, .list [x, y]) := lst_ev (evs_c h (evs_c h2 evs_n)) (show 2 ≤ 16777216 by omega)
theorem lst5 {a1 a2 a3 a4 a5 : E} {x1 x2 x3 x4 x5 : D} (h1 : ev cal a1 false ρ = some (true, x1)) (h2 : ev cal a2 false ρ = some (true, x2)) (h3 : ev cal a3 false ρ = some (true, x3)) (h4 : ev cal a4 false ρ = some (true, x4)) (h5 : ev cal a5 false ρ = some (true, x5)) : ev cal (.lst (.cons a1 (.cons a2 (.cons a3 (.cons a4 (.cons a5 .nil)))))) false ρ = some (true, .list [x1, x2, x3, x4, x5]) := lst_ev (evs_c h1 (evs_c h2 (evs_c h3 (evs_c h4 (evs_c h5 evs_n))))) (show 5 ≤ 16777216 by omega)
theorem cal5 {d e : E} {u v : D} {p2 q2 : Bool} {f : Nat} (h : ev cal a false ρ = some (p, x)) (h2 : ev cal b false ρ = some (q, y)) (h3 : ev cal c false ρ = some (r, z)) (h4 : ev cal d false ρ = some (p2, u)) (h5 : ev cal e false ρ = some (q2, v)) (hf : cal f [(p, x), (q, y), (r, z), (p2, u), (q2, v)] = some w) : ev cal (.cal f (.cons a (.cons b (.cons c (.cons d (.cons e .nil)))))) false ρ = some w := by
  simp only [ev, evs, h, h2, h3, h4, h5, fin, hf, Bool.false_eq_true, if_false]
theorem lst4 {a1 a2 a3 a4 : E} {x1 x2 x3 x4 : D} (h1 : ev cal a1 false ρ = some (true, x1)) (h2 : ev cal a2 false ρ = some (true, x2)) (h3 : ev cal a3 false ρ = some (true, x3)) (h4 : ev cal a4 false ρ = some (true, x4)) : ev cal (.lst (.cons a1 (.cons a2 (.cons a3 (.cons a4 .nil))))) false ρ = some (true, .list [x1, x2, x3, x4]) := lst_ev (evs_c h1 (evs_c h2 (evs_c h3 (evs_c h4 evs_n)))) (show 4 ≤ 16777216 by omega)
theorem neg_ev {i : Int} (h : ev cal a false ρ = some (p, .int i)) : ev cal (.neg a) false ρ = some (true, .int (-i)) := by
  simp only [ev, h, fin, Bool.false_eq_true, if_false]
theorem tup4 {d : E} {u : D} (h : ev cal a false ρ = some (true, x)) (h2 : ev cal b false ρ = some (true, y)) (h3 : ev cal c false ρ = some (true, z)) (h4 : ev cal d false ρ = some (true, u)) : ev cal (.tup (.cons a (.cons b (.cons c (.cons d .nil))))) false ρ = some (true, .tuple [x, y, z, u]) := tup_ev (evs_c h (evs_c h2 (evs_c h3 (evs_c h4 evs_n)))) (show 4 ≤ 16777216 by omega)
theorem tup5 {d e : E} {u v : D} (h : ev cal a false ρ = some (true, x)) (h2 : ev cal b false ρ = some (true, y)) (h3 : ev cal c false ρ = some (true, z)) (h4 : ev cal d false ρ = some (true, u)) (h5 : ev cal e false ρ = some (true, v)) : ev cal (.tup (.cons a (.cons b (.cons c (.cons d (.cons e .nil)))))) false ρ = some (true, .tuple [x, y, z, u, v]) := tup_ev (evs_c h (evs_c h2 (evs_c h3 (evs_c h4 (evs_c h5 evs_n))))) (show 5 ≤ 16777216 by omega)
theorem tup0 : ev cal (.tup .nil) false ρ = some (true, .tuple []) := tup_ev evs_n (by decide)
theorem tup1 (h : ev cal a false ρ = some (true, x)) : ev cal (.tup (.cons a .nil)) false ρ = some (true, .tuple [x]) := tup_ev (evs_c h evs_n) (show 1 ≤ 16777216 by omega)
theorem tup2 (h : ev cal a false ρ = some (true, x)) (h2 : ev cal b false ρ = some (true, y)) : ev cal (.tup (.cons a (.cons b .nil))) false ρ = some (true, .tuple [x, y]) := tup_ev (evs_c h (evs_c h2 evs_n)) (show 2 ≤ 16777216 by omega)
theorem tup3 (h : ev cal a false ρ = some (true, x)) (h2 : ev cal b false ρ = some (true, y)) (h3 : ev cal c false ρ = some (true, z)) : ev cal (.tup (.cons a (.cons b (.cons c .nil)))) false ρ = some (true, .tuple [x, y, z]) := tup_ev (evs_c h (evs_c h2 (evs_c h3 evs_n))) (show 3 ≤ 16777216 by omega)
theorem sl_no {hi : E} {j : Int} (h : ev cal a false ρ = some (p, x)) (h3 : ev cal hi false ρ = some (r, .int j)) (e : slD x none (some j) = some w) : ev cal (.sl a .no (.so hi)) false ρ = some w := by
  simp only [ev, evo, h, h3, optI, e, fin, Bool.false_eq_true, if_false]
theorem sl_on {lo : E} {j : Int} (h : ev cal a false ρ = some (p, x)) (h3 : ev cal lo false ρ = some (r, .int j)) (e : slD x (some j) none = some w) : ev cal (.sl a (.so lo) .no) false ρ = some w := by
  simp only [ev, evo, h, h3, optI, e, fin, Bool.false_eq_true, if_false]
theorem sl_noN {hi : E} {j : Nat} (h : ev cal a false ρ = some (p, x)) (h3 : ev cal hi false ρ = some (r, nD j)) (e : slD x none (some (j : Int)) = some w) : ev cal (.sl a .no (.so hi)) false ρ = some w := sl_no h h3 e
theorem sl_onN {lo : E} {j : Nat} (h : ev cal a false ρ = some (p, x)) (h3 : ev cal lo false ρ = some (r, nD j)) (e : slD x (some (j : Int)) none = some w) : ev cal (.sl a (.so lo) .no) false ρ = some w := sl_on h h3 e
theorem sl_ooN {lo hi : E} {i j : Nat} (h : ev cal a false ρ = some (p, x)) (h2 : ev cal lo false ρ = some (q, nD i)) (h3 : ev cal hi false ρ = some (r, nD j)) (e : slD x (some (i : Int)) (some (j : Int)) = some w) : ev cal (.sl a (.so lo) (.so hi)) false ρ = some w := sl_ev h h2 h3 e
theorem sl_m1 (h : ev cal a false ρ = some (p, x)) (e : slD x none (some (-1)) = some w) : ev cal (.sl a .no (.so (.neg (.k (.int 1))))) false ρ = some w := sl_no h m1_ev e
theorem rev_ev (h : ev cal a false ρ = some (p, x)) (e : revD x = some w) : ev cal (.rev a) false ρ = some w := by
  simp only [ev, h, e, fin, Bool.false_eq_true, if_false]
theorem chn_b {m : Bool} {f g : Co} {u v : Bool} (h : ev cal a false ρ = some (p, x)) (h2 : ev cal b false ρ = some (q, y)) (e : cmpD f x y = some u) (h3 : u = true → ev cal c false ρ = some (r, z)) (e2 : cmpD g y z = some v) : ev cal (.chn f g a b c) m ρ = some (true, .bool (u && v)) := by
  cases u with
  | false => cases m <;> simp [ev, h, h2, e, fin, truD]
  | true => cases m <;> simp [ev, h, h2, e, h3 rfl, e2, fin, truD, boolD]
end
/-! ### picks, greatest -/
theorem pickN {cal : Cal} {ρ : Ev} {es : Es} {e : E} {ps : List (Bool × D)} {i n : Nat} {p : Bool} (h : evs cal es ρ = some ps) (hl : ps.length ≤ lim) (h2 : ev cal e false ρ = some (p, nD i)) (hx : ps[i]? = some (true, nD n)) : ev cal (.ix (.tup es) e) false ρ = some (true, nD n) :=
  (pick_ev h hl h2 hx rfl)
theorem max_foldl : ∀ (r : List Int) (x : Int), (r.foldl (fun a b => if b > a then b else a) x ∈ x :: r) ∧ ∀ y ∈ x :: r, y ≤ r.foldl (fun a b => if b > a then b else a) x
  | [], x => by simp
  | z :: r, x => by
    obtain ⟨w, hw⟩ : ∃ w, w = if z > x then z else x := ⟨_, rfl⟩
    have f1 : z ≤ w := by rw [hw]; split <;> omega
    have f2 : x ≤ w := by rw [hw]; split <;> omega
    have f3 : w = z ∨ w = x := by rw [hw]; split <;> simp
    obtain ⟨h1, h2⟩ := max_foldl r w
    rw [List.foldl_cons, ← hw]
    have h3 := h2 _ (List.mem_cons_self ..)
    constructor
    · rcases List.mem_cons.mp h1 with h | h
      · rcases f3 with e | e
        · rw [h, e]; simp
        · rw [h, e]; simp
      · exact List.mem_cons_of_mem _ (List.mem_cons_of_mem _ h)
    · intro y hy
      rcases List.mem_cons.mp hy with rfl | hy
      · omega
      · rcases List.mem_cons.mp hy with rfl | hy
        · omega
        · exact h2 y (List.mem_cons_of_mem _ hy)
theorem max_nat {α : Type} {S : List α} (f : α → Nat) (h : S ≠ []) : ∃ m, (∃ a ∈ S, f a = m) ∧ (∀ s ∈ S, f s ≤ m) ∧ ∀ p, biD .max1 [(p, .list (S.map fun a => nD (f a)))] = some (true, nD m) := by
  have e : (S.map fun a => nD (f a)) = (S.map fun a => (f a : Int)).map .int := by rw [List.map_map]; rfl
  cases hS : (S.map fun a => (f a : Int)) with
  | nil => exact absurd (List.map_eq_nil_iff.mp hS) h
  | cons x r =>
    obtain ⟨h1, h2⟩ := max_foldl r x
    rw [← hS] at h1 h2
    obtain ⟨a, ha, ea⟩ := List.mem_map.mp h1
    refine ⟨f a, ⟨a, ha, rfl⟩, fun s hs => ?_, fun p => ?_⟩
    · have := h2 (f s : Int) (List.mem_map.mpr ⟨s, hs, rfl⟩)
      omega
    · rw [e, hS]
      simp only [biD, List.map_cons, List.isEmpty_cons, Bool.false_eq_true, if_false]
      rw [← List.map_cons, intsD_map, Option.map_some]
      show some (true, PyData.int (r.foldl (fun a b => if b > a then b else a) x)) = _
      rw [← ea]; rfl
/-! ### comparisons -/
theorem eq_nDs (a b : Nat) : cmpD .eq (nD a) (nD b) = some (decide (a = b)) := by
  rw [cmpD, eq_nD]
theorem ne_nDs (a b : Nat) : cmpD .ne (nD a) (nD b) = some (!decide (a = b)) := by
  rw [cmpD, eq_nD]; rfl
theorem lt_nDs (a b : Nat) : cmpD .lt (nD a) (nD b) = some (decide (a < b)) := by
  show some (decide ((a : Int) < b)) = _
  exact congrArg some (decide_eq_decide.mpr (by omega))
theorem gt_nDs (a b : Nat) : cmpD .gt (nD a) (nD b) = some (decide (b < a)) := lt_nDs b a
theorem le_nDs (a b : Nat) : cmpD .le (nD a) (nD b) = some (decide (a ≤ b)) := by
  show some (!decide ((b : Int) < a)) = _
  rw [← decide_not]
  exact congrArg some (decide_eq_decide.mpr (by omega))
theorem ge_nDs (a b : Nat) : cmpD .ge (nD a) (nD b) = some (decide (b ≤ a)) := le_nDs b a
theorem eq_is (a b : Int) : cmpD .eq (.int a) (.int b) = some (decide (a = b)) := rfl
theorem ne_is (a b : Int) : cmpD .ne (.int a) (.int b) = some (!decide (a = b)) := rfl
theorem lt_is (a b : Int) : cmpD .lt (.int a) (.int b) = some (decide (a < b)) := rfl
theorem gt_is (a b : Int) : cmpD .gt (.int a) (.int b) = some (decide (b < a)) := rfl
theorem le_is (a b : Int) : cmpD .le (.int a) (.int b) = some (decide (a ≤ b)) := by
  show some (!decide (b < a)) = _
  rw [← decide_not]
  exact congrArg some (decide_eq_decide.mpr (by omega))
theorem ge_is (a b : Int) : cmpD .ge (.int a) (.int b) = some (decide (b ≤ a)) := le_is b a
theorem ge_iz (a : Int) (b : Nat) : cmpD .ge (.int a) (nD b) = some (decide ((b : Int) ≤ a)) := ge_is a b
theorem gt_iz (a : Int) (b : Nat) : cmpD .gt (.int a) (nD b) = some (decide ((b : Int) < a)) := gt_is a b
theorem lt_iz (a : Int) (b : Nat) : cmpD .lt (.int a) (nD b) = some (decide (a < (b : Int))) := lt_is a b
theorem le_iz (a : Int) (b : Nat) : cmpD .le (.int a) (nD b) = some (decide (a ≤ (b : Int))) := le_is a b
theorem le_zi (a : Nat) (b : Int) : cmpD .le (nD a) (.int b) = some (decide ((a : Int) ≤ b)) := le_is a b
theorem lt_zi (a : Nat) (b : Int) : cmpD .lt (nD a) (.int b) = some (decide ((a : Int) < b)) := lt_is a b
theorem sub_zi (i : Nat) (j : Int) : binD .sub (nD i) (.int j) = some (true, .int ((i : Int) - j)) := rfl
theorem add_zi (i : Nat) (j : Int) : binD .add (nD i) (.int j) = some (true, .int ((i : Int) + j)) := rfl
theorem isT_t (xs : List D) (p : Bool) : biD .isTuple [(p, .tuple xs)] = some (true, .bool true) := rfl
theorem eq_iz (a : Int) (b : Nat) : cmpD .eq (.int a) (nD b) = some (decide (a = (b : Int))) := rfl
theorem ne_iz (a : Int) (b : Nat) : cmpD .ne (.int a) (nD b) = some (!decide (a = (b : Int))) := rfl
theorem eq_st (a b : Str) : cmpD .eq (.str a) (.str b) = some (decide (a = b)) := rfl
theorem ne_st (a b : Str) : cmpD .ne (.str a) (.str b) = some (!decide (a = b)) := rfl
theorem eq_bs (a b : Bool) : cmpD .eq (.bool a) (.bool b) = some (decide (a = b)) := rfl
theorem ne_bs (a b : Bool) : cmpD .ne (.bool a) (.bool b) = some (!decide (a = b)) := rfl
theorem in_lNs (t : Nat) (l : List Nat) : cmpD .inn (nD t) (.list (l.map nD)) = some (decide (t ∈ l)) := in_lN t l
theorem in_tNs (t : Nat) (l : List Nat) : cmpD .inn (nD t) (.tuple (l.map nD)) = some (decide (t ∈ l)) := in_tN t l
theorem nin_lNs (t : Nat) (l : List Nat) : cmpD .nin (nD t) (.list (l.map nD)) = some (!decide (t ∈ l)) := by
  have := in_lNs t l
  simp only [cmpD] at this ⊢
  rw [this]; rfl
theorem nin_tNs (t : Nat) (l : List Nat) : cmpD .nin (nD t) (.tuple (l.map nD)) = some (!decide (t ∈ l)) := by
  have := in_tNs t l
  simp only [cmpD] at this ⊢
  rw [this]; rfl
theorem all_bs {α : Type} (g : α → Bool) (L : List α) (p : Bool) : biD .all [(p, .list (L.map fun a => .bool (g a)))] = some (true, .bool (L.all g)) := by
  simp only [biD, bool_T, Option.map_some, List.all_map]; rfl
theorem any_bs {α : Type} (g : α → Bool) (L : List α) (p : Bool) : biD .any [(p, .list (L.map fun a => .bool (g a)))] = some (true, .bool (L.any g)) := by
  simp only [biD, bool_T, Option.map_some, List.any_map]; rfl
theorem fzs_mp {α : Type} {f : α → D} {L : List α} (h : ∀ a ∈ L, fz (f a) = true) : fzs (L.map f) = true := fzs_all _ fun x hx => by
  obtain ⟨a, ha, rfl⟩ := List.mem_map.mp hx
  exact h a ha
theorem len_ls (xs : List D) (p : Bool) : biD .len [(p, .list xs)] = some (true, nD xs.length) := rfl
theorem len_ts (xs : List D) (p : Bool) : biD .len [(p, .tuple xs)] = some (true, nD xs.length) := rfl
theorem tup_ls {xs : List D} (h : fzs xs = true) (p : Bool) : biD .tuple [(p, .list xs)] = some (true, .tuple xs) := by simp only [biD, h]
theorem tup_mp {α : Type} {f : α → D} {L : List α} {p : Bool} (h : ∀ a, fz (f a) = true) : biD .tuple [(p, .list (L.map f))] = some (true, .tuple (L.map f)) := tup_ls (fzs_mp fun a _ => h a) p
theorem ix0 {L : List Nat} (h : (!(L.map nD).isEmpty) = true) : ixD (.list (L.map nD)) (nD 0) = some (true, nD (L.headD 0)) := by
  cases L with
  | nil => cases h
  | cons a r => exact ix_list (i := 0) (x := nD a) rfl
theorem int_nD (n : Nat) (p : Bool) : biD .int [(p, nD n)] = some (true, nD n) := rfl
theorem sub_nD {i j : Nat} (h : j ≤ i) : binD .sub (nD i) (nD j) = some (true, nD (i - j)) := by
  show some (true, PyData.int ((i : Int) - j)) = _
  rw [nD, Int.ofNat_sub h]
theorem mul_nD {i j : Nat} (h : i ≤ lim) : binD .mul (nD i) (nD j) = some (true, nD (i * j)) := bin_mulN h
theorem mul_nDr {i j : Nat} (h : j ≤ lim) : binD .mul (nD i) (nD j) = some (true, nD (i * j)) := by
  have : j ≤ 16777216 := h
  exact (bin_mulR (by omega)).trans (by rw [nD, Int.natCast_mul])
theorem mul_nn {i j : Nat} (h : i ≤ lim ∨ j ≤ lim) : binD .mul (nD i) (nD j) = some (true, nD (i * j)) := h.elim mul_nD mul_nDr
theorem mul_iz {i : Int} {j : Nat} (h : j ≤ lim) : binD .mul (.int i) (nD j) = some (true, .int (i * (j : Int))) := by
  have : j ≤ 16777216 := h
  exact bin_mulR (by omega)
theorem add_iz (i : Int) (j : Nat) : binD .add (.int i) (nD j) = some (true, .int (i + (j : Int))) := rfl
theorem sub_iz (i : Int) (j : Nat) : binD .sub (.int i) (nD j) = some (true, .int (i - (j : Int))) := rfl
theorem sub_ni (i j : Nat) : binD .sub (nD i) (nD j) = some (true, .int ((i : Int) - (j : Int))) := rfl
theorem ix_lnD {l : List Nat} {i : Nat} (h : i < l.length) : ixD (.list (l.map nD)) (nD i) = some (true, nD (l.getD i 0)) := ix_lN (by simp [h])
theorem ix_tnD {l : List Nat} {i : Nat} (h : i < l.length) : ixD (.tuple (l.map nD)) (nD i) = some (true, nD (l.getD i 0)) := ix_tN (by simp [h])
theorem ix_tI {l : List Int} {i : Nat} (h : i < l.length) : ixD (.tuple (l.map .int)) (nD i) = some (true, .int (l.getD i 0)) := ix_tup (x := .int (l.getD i 0)) (by simp [h])
theorem mul_zi {i : Nat} {j : Int} (h : i ≤ lim) : binD .mul (nD i) (.int j) = some (true, .int ((i : Int) * j)) := by
  have : i ≤ 16777216 := h
  exact bin_mulL (by omega)
theorem flat_rep {α : Type} (x : α) (n : Nat) : (List.replicate n [x]).flatten = List.replicate n x := by
  induction n with
  | zero => rfl
  | succ n ih => rw [List.replicate_succ, List.flatten_cons, ih, List.replicate_succ]; rfl
theorem mulL1 {x : D} {n : Nat} (hx : fz x = true) (h : n ≤ 1000) : binD .mul (.list [x]) (nD n) = some (true, .list (List.replicate n x)) := by
  have e : fzs [x] = true := by simp [fzs, hx]
  simp only [binD, nD]
  rw [if_pos ⟨e, by omega, by omega, by simp⟩, Int.toNat_natCast, flat_rep]
theorem mulT1 {v n : Nat} (_h0 : 1 ≤ n) (h : n ≤ 1000) : binD .mul (.tuple [nD v]) (nD n) = some (true, .tuple ((List.replicate n (v : Int)).map .int)) := by
  simp only [binD, nD]
  rw [if_pos ⟨rfl, by simp, by omega, by omega, by simp⟩, Int.toNat_natCast, flat_rep, List.map_replicate]
theorem add_LT {a b : List (List Int)} (h : a.length + b.length ≤ lim) : binD .add (.list (a.map tZ)) (.list (b.map tZ)) = some (true, .list ((a ++ b).map tZ)) := by
  have e : fzs (a.map tZ ++ b.map tZ) = true := by
    rw [← List.map_append]
    exact fzs_mp fun x _ => fzs_ints x
  simp only [binD, List.length_map]
  rw [if_pos h, e, List.map_append]
theorem ix3I {a b c : Int} {i : Nat} (h : i < 3) : ixD (.tuple [.int a, .int b, .int c]) (nD i) = some (true, .int ([a, b, c].getD i 0)) := ix_tI (l := [a, b, c]) h
theorem max_ii (i j : Int) (p q : Bool) : biD .max2 [(p, .int i), (q, .int j)] = some (true, .int (max i j)) := by
  show some (true, PyData.int (if j > i then j else i)) = _
  congr 2
  congr 1
  split <;> omega
theorem list_mp {α : Type} {f : α → D} {L : List α} {p : Bool} (h : ∀ a, fz (f a) = true) : biD .list [(p, .list (L.map f))] = some (true, .list (L.map f)) := by
  simp only [biD, fzs_mp fun a _ => h a]
theorem min_nD (i j : Nat) (p q : Bool) : biD .min2 [(p, nD i), (q, nD j)] = some (true, nD (min i j)) := by
  show some (true, PyData.int (if (j : Int) < (i : Int) then (j : Int) else (i : Int))) = some (true, PyData.int ((min i j : Nat) : Int))
  congr 2
  congr 1
  split <;> omega
theorem max_nD (i j : Nat) (p q : Bool) : biD .max2 [(p, nD i), (q, nD j)] = some (true, nD (max i j)) := by
  show some (true, PyData.int (if (j : Int) > (i : Int) then (j : Int) else (i : Int))) = some (true, PyData.int ((max i j : Nat) : Int))
  congr 2
  congr 1
  split <;> omega
theorem gcd_nD (i j : Nat) (p q : Bool) : biD .gcd [(p, nD i), (q, nD j)] = some (true, nD (Nat.gcd i j)) := rfl
theorem sum_tI (l : List Int) (p : Bool) : biD .sum [(p, .tuple (l.map .int))] = some (true, .int l.sum) := by simp only [biD, intsD_map, Option.map_some]
theorem any_tI (l : List Int) (p : Bool) : biD .any [(p, .tuple (l.map .int))] = some (true, .bool (l.any (· != 0))) := by simp only [biD, intsD_map, Option.map_some]
theorem slI_0n (l : List Int) (b : Nat) : slD (.tuple (l.map .int)) none (some (b : Int)) = some (true, .tuple ((l.take b).map .int)) := sl_0n l b
theorem slI_n0 (l : List Int) (b : Nat) : slD (.tuple (l.map .int)) (some (b : Int)) none = some (true, .tuple ((l.drop b).map .int)) := sl_n0 l b
theorem slI_m1 (l : List Int) : slD (.tuple (l.map .int)) none (some (-1)) = some (true, .tuple (l.dropLast.map .int)) := by
  have e : cutD (l.map PyData.int) none (some (-1)) = l.dropLast.map .int := by
    unfold cutD
    have h0 : HT.sIx (l.map PyData.int).length 0 none = 0 := rfl
    have h1 : HT.sIx (l.map PyData.int).length (l.map PyData.int).length (some (-1)) = l.length - 1 := by
      unfold HT.sIx
      simp only [List.length_map]
      split <;> omega
    rw [h0, h1, List.drop_zero, Nat.sub_zero, ← List.map_take, List.dropLast_eq_take]
  simp only [slD, e, fzs_ints]
theorem add_tI {a b : List Int} (h : a.length + b.length ≤ lim) : binD .add (.tuple (a.map .int)) (.tuple (b.map .int)) = some (true, .tuple ((a ++ b).map .int)) := add_tZ h
theorem add_tI1 {a : List Int} {v : Int} (h : a.length + 1 ≤ lim) : binD .add (.tuple (a.map .int)) (.tuple [.int v]) = some (true, .tuple ((a ++ [v]).map .int)) := add_tZ (b := [v]) h
theorem add_tI1n {a : List Int} {v : Nat} (h : a.length + 1 ≤ lim) : binD .add (.tuple (a.map .int)) (.tuple [nD v]) = some (true, .tuple ((a ++ [(v : Int)]).map .int)) := add_tZ (b := [(v : Int)]) h
theorem rev_tI (l : List Int) : revD (.tuple (l.map .int)) = some (true, .tuple (l.reverse.map .int)) := by
  simp only [revD, fzs_ints, if_true, List.map_reverse]
theorem max0 (i : Int) (p q : Bool) : biD .max2 [(p, nD 0), (q, .int i)] = some (true, nD i.toNat) := by
  show some (true, PyData.int (if i > ((0 : Nat) : Int) then i else ((0 : Nat) : Int))) = some (true, PyData.int ((i.toNat : Nat) : Int))
  congr 2
  congr 1
  split <;> omega
theorem slL_nn (l : List Nat) (a b : Nat) : slD (.list (l.map nD)) (some (a : Int)) (some (b : Int)) = some (true, .list (((l.drop a).take (b - a)).map nD)) := by
  have e : cutD (l.map nD) (some (a : Int)) (some (b : Int)) = ((l.drop a).take (b - a)).map nD := by rw [cut_nn, ← List.map_drop, ← List.map_take]
  simp only [slD, e, fzs_map nD _ (fun _ => rfl)]
theorem mod_nD {i j : Nat} (h : 0 < j) : binD .mod (nD i) (nD j) = some (true, nD (i % j)) := bin_modN h
theorem mod_ite {x a b : Nat} {u : Bool} (ha : 0 < a) (hb : 0 < b) : binD .mod (nD x) (if u = true then nD a else nD b) = some (true, nD (x % (if u = true then a else b))) := by
  cases u with
  | true => exact mod_nD ha
  | false => exact mod_nD hb
theorem div_nD {i j : Nat} (h : 0 < j ∧ j < 1073741824) : binD .fdiv (nD i) (nD j) = some (true, nD (i / j)) := bin_fdivN h

theorem sl_DM (dr : Nat → Nat) (m a b : Nat) : slD (DM dr m) (some (a : Int)) (some (b : Int)) = some (true, .list (((((List.range m).map dr).drop a).take (b - a)).map nD)) := by
  have e : DM dr m = .list (((List.range m).map dr).map nD) := by unfold DM; rw [List.map_map]; rfl
  rw [e, slL_nn]
/-! ### comprehensions, the target one name -/
theorem set_set (ρ : Ev) (i : Nat) (x y : Option (Bool × D)) : (ρ.set i x).set i y = ρ.set i y := by
  apply List.ext_getElem?
  intro j
  simp only [List.getElem?_set, List.length_set]
  split <;> simp_all
theorem setT_d {ρ : Ev} {i : Nat} {d : D} (h : i < ρ.length) : setT (.n i) false d (wipeE ρ [i]) = some (ρ.set i (some (fz d, d))) := by
  simp only [setT, wipeE, List.length_set, if_pos h, Bool.false_or, set_set]
theorem setT_n {ρ : Ev} {i : Nat} {d : D} (h : i < ρ.length) (hf : fz d = true) : setT (.n i) false d (wipeE ρ [i]) = some (ρ.set i (some (true, d))) := by
  simp only [setT, wipeE, List.length_set, if_pos h, hf, Bool.false_or, set_set]
theorem setT_f {ρ : Ev} {i : Nat} {d : D} (h : i < ρ.length) (hf : fz d = true) : setT (.n i) false d ρ = some (ρ.set i (some (true, d))) := by
  simp only [setT, if_pos h, hf, Bool.false_or]
section
variable {cal : Cal} {ρ : Ev}
/-- [elt for i in src] -/
theorem lcN {α : Type} {enc val : α → D} {L : List α} {elt : E} {i : Nat} {src : I} {f : Bool} (hs : evi cal src ρ = some (f, L.map enc)) (hl : L.length ≤ lim) (hi : i < ρ.length) (h : ∀ a, a ∈ L → ev cal elt false (ρ.set i (some (fz (enc a), enc a))) = some (true, val a)) : ev cal (.lc elt (.n i) src .no [i]) false ρ = some (true, .list (L.map val)) :=
  lc_T hs hl fun a ha => ⟨_, setT_d hi, h a ha⟩
/-- [elt for i in src if c] -/
theorem lcF {α : Type} {enc val : α → D} {p o : α → Bool} {L : List α} {elt c : E} {i : Nat} {src : I} {f : Bool} (hs : evi cal src ρ = some (f, L.map enc)) (hl : L.length ≤ lim) (hi : i < ρ.length) (h : ∀ a, a ∈ L → ev cal c true (ρ.set i (some (fz (enc a), enc a))) = some (o a, .bool (p a))) (h2 : ∀ a, a ∈ L → p a = true → ev cal elt false (ρ.set i (some (fz (enc a), enc a))) = some (true, val a)) : ev cal (.lc elt (.n i) src (.so c) [i]) false ρ = some (true, .list ((L.filter p).map val)) :=
  lc_TF hs hl fun a ha => ⟨_, o a, setT_d hi, h a ha, h2 a ha⟩
theorem gaD_N {α : Type} {enc : α → D} {g : α → Bool} {al : Bool} {st : D → Ev → Option Ev} {te el : Ev → Option (Bool × D)} : ∀ {L : List α}, (∀ a ∈ L, ∃ ρ' o o', st (enc a) ρ = some ρ' ∧ te ρ' = some (o, .bool true) ∧ el ρ' = some (o', .bool (g a))) → gaD al st te el ρ (L.map enc) = some (if al = true then L.all g else L.any g)
  | [], _ => by cases al <;> rfl
  | a :: r, h => by
    obtain ⟨ρ', o, o', e1, e2, e3⟩ := h a (List.mem_cons_self ..)
    have ih := gaD_N (L := r) (al := al) (g := g) fun b hb => h b (List.mem_cons_of_mem _ hb)
    simp only [List.map_cons, gaD, e1, e2, e3, List.all_cons, List.any_cons, ih]
    cases al <;> cases g a <;> simp
theorem gaD_F {α : Type} {enc : α → D} {g p : α → Bool} {al : Bool} {st : D → Ev → Option Ev} {te el : Ev → Option (Bool × D)} : ∀ {L : List α}, (∀ a ∈ L, ∃ ρ' o, st (enc a) ρ = some ρ' ∧ te ρ' = some (o, .bool (p a)) ∧ (p a = true → ∃ o', el ρ' = some (o', .bool (g a)))) → gaD al st te el ρ (L.map enc) = some (if al = true then (L.filter p).all g else (L.filter p).any g)
  | [], _ => by cases al <;> rfl
  | a :: r, h => by
    obtain ⟨ρ', o, e1, e2, e3⟩ := h a (List.mem_cons_self ..)
    have ih := gaD_F (L := r) (al := al) (g := g) (p := p) fun b hb => h b (List.mem_cons_of_mem _ hb)
    cases hp : p a with
    | false =>
      rw [hp] at e2
      simp only [List.map_cons, gaD, e1, e2, List.filter_cons, hp, ih, Bool.false_eq_true, if_false]
    | true =>
      obtain ⟨o', e4⟩ := e3 hp
      rw [hp] at e2
      simp only [List.map_cons, gaD, e1, e2, e4, List.filter_cons, hp, ih, if_true, List.all_cons, List.any_cons]
      cases al <;> cases g a <;> simp
/-- all(elt for i in src), any(..) -/
theorem gvN {α : Type} {enc : α → D} {g o : α → Bool} {al : Bool} {L : List α} {elt : E} {i : Nat} {src : I} {f : Bool} (hs : evi cal src ρ = some (f, L.map enc)) (hi : i < ρ.length) (h : ∀ a, a ∈ L → ev cal elt false (ρ.set i (some (fz (enc a), enc a))) = some (o a, .bool (g a))) : ev cal (.ga al elt (.n i) src .no [i]) false ρ = some (true, .bool (if al = true then L.all g else L.any g)) := by
  have := gaD_N (ρ := wipeE ρ [i]) (enc := enc) (g := g) (al := al) (st := fun d ρ => setT (.n i) false d ρ) (te := fun ρ => evt cal .no ρ) (el := fun ρ => ev cal elt false ρ) (L := L) fun a ha => ⟨_, true, o a, setT_d hi, by simp only [evt], h a ha⟩
  simp only [ev, hs, this, fin, Bool.false_eq_true, if_false, boolD, Option.map_some]
theorem gvF {α : Type} {enc : α → D} {g o p q : α → Bool} {al : Bool} {L : List α} {elt c : E} {i : Nat} {src : I} {f : Bool} (hs : evi cal src ρ = some (f, L.map enc)) (hi : i < ρ.length) (hc : ∀ a, a ∈ L → ev cal c true (ρ.set i (some (fz (enc a), enc a))) = some (q a, .bool (p a))) (h : ∀ a, a ∈ L → p a = true → ev cal elt false (ρ.set i (some (fz (enc a), enc a))) = some (o a, .bool (g a))) : ev cal (.ga al elt (.n i) src (.so c) [i]) false ρ = some (true, .bool (if al = true then (L.filter p).all g else (L.filter p).any g)) := by
  have := gaD_F (ρ := wipeE ρ [i]) (enc := enc) (g := g) (p := p) (al := al) (st := fun d ρ => setT (.n i) false d ρ) (te := fun ρ => evt cal (.so c) ρ) (el := fun ρ => ev cal elt false ρ) (L := L) fun a ha => ⟨_, q a, setT_d hi, by simp only [evt, hc a ha], fun z => ⟨o a, h a ha z⟩⟩
  simp only [ev, hs, this, fin, Bool.false_eq_true, if_false, boolD, Option.map_some]
/-- all, any of a generator expression, any target -/
theorem gvT {α : Type} {enc : α → D} {g : α → Bool} {al : Bool} {L : List α} {elt : E} {t : T} {src : I} {own : List Nat} {f : Bool} (hs : evi cal src ρ = some (f, L.map enc)) (h : ∀ a, a ∈ L → ∃ ρ' o, setT t false (enc a) (wipeE ρ own) = some ρ' ∧ ev cal elt false ρ' = some (o, .bool (g a))) : ev cal (.ga al elt t src .no own) false ρ = some (true, .bool (if al = true then L.all g else L.any g)) := by
  have := gaD_N (ρ := wipeE ρ own) (enc := enc) (g := g) (al := al) (st := fun d ρ => setT t false d ρ) (te := fun ρ => evt cal .no ρ) (el := fun ρ => ev cal elt false ρ) (L := L) fun a ha => by
    obtain ⟨ρ', o, e1, e2⟩ := h a ha
    exact ⟨ρ', true, o, e1, by simp only [evt], e2⟩
  simp only [ev, hs, this, fin, Bool.false_eq_true, if_false, boolD, Option.map_some]
theorem lcNr {val : Nat → D} {n : Nat} {elt e : E} {i : Nat} {f : Bool} (hs : ev cal e false ρ = some (f, nD n)) (hl : n ≤ lim) (hi : i < ρ.length) (h : ∀ a, a < n → ev cal elt false (ρ.set i (some (true, nD a))) = some (true, val a)) : ev cal (.lc elt (.n i) (.rng1 e) .no [i]) false ρ = some (true, .list ((List.range n).map val)) :=
  lcN (enc := nD) (rng_T hs hl) (by rw [List.length_range]; exact hl) hi fun a ha => h a (List.mem_range.mp ha)
theorem lcFr {val : Nat → D} {p o : Nat → Bool} {n : Nat} {elt c e : E} {i : Nat} {f : Bool} (hs : ev cal e false ρ = some (f, nD n)) (hl : n ≤ lim) (hi : i < ρ.length) (h : ∀ a, a < n → ev cal c true (ρ.set i (some (true, nD a))) = some (o a, .bool (p a))) (h2 : ∀ a, a < n → p a = true → ev cal elt false (ρ.set i (some (true, nD a))) = some (true, val a)) : ev cal (.lc elt (.n i) (.rng1 e) (.so c) [i]) false ρ = some (true, .list (((List.range n).filter p).map val)) :=
  lcF (enc := nD) (rng_T hs hl) (by rw [List.length_range]; exact hl) hi (fun a ha => h a (List.mem_range.mp ha)) fun a ha => h2 a (List.mem_range.mp ha)
theorem gvNr {g o : Nat → Bool} {al : Bool} {n : Nat} {elt e : E} {i : Nat} {f : Bool} (hs : ev cal e false ρ = some (f, nD n)) (hl : n ≤ lim) (hi : i < ρ.length) (h : ∀ a, a < n → ev cal elt false (ρ.set i (some (true, nD a))) = some (o a, .bool (g a))) : ev cal (.ga al elt (.n i) (.rng1 e) .no [i]) false ρ = some (true, .bool (if al = true then (List.range n).all g else (List.range n).any g)) :=
  gvN (enc := nD) (rng_T hs hl) hi fun a ha => h a (List.mem_range.mp ha)
theorem gvFr {g o p q : Nat → Bool} {al : Bool} {n : Nat} {elt c e : E} {i : Nat} {f : Bool} (hs : ev cal e false ρ = some (f, nD n)) (hl : n ≤ lim) (hi : i < ρ.length) (hc : ∀ a, a < n → ev cal c true (ρ.set i (some (true, nD a))) = some (q a, .bool (p a))) (h : ∀ a, a < n → p a = true → ev cal elt false (ρ.set i (some (true, nD a))) = some (o a, .bool (g a))) : ev cal (.ga al elt (.n i) (.rng1 e) (.so c) [i]) false ρ = some (true, .bool (if al = true then ((List.range n).filter p).all g else ((List.range n).filter p).any g)) :=
  gvF (enc := nD) (rng_T hs hl) hi (fun a ha => hc a (List.mem_range.mp ha)) fun a ha => h a (List.mem_range.mp ha)
theorem rng_nD {a : E} {f : Bool} {n : Nat} (h : ev cal a false ρ = some (f, nD n)) (hb : n ≤ lim) : evi cal (.rng1 a) ρ = some (true, (List.range n).map nD) := rng_T h hb
theorem evi_enT {a : E} {f : Bool} {xs : List D} (h : ev cal a false ρ = some (f, .tuple xs)) : evi cal (.enm a) ρ = some (f, enmD xs) := by simp only [evi, h]
theorem evi_enL {a : E} {f : Bool} {xs : List D} (h : ev cal a false ρ = some (f, .list xs)) : evi cal (.enm a) ρ = some (f, enmD xs) := by simp only [evi, h]
theorem rng_2 {a b : E} {p q : Bool} {i j : Nat} (h : ev cal a false ρ = some (p, nD i)) (h2 : ev cal b false ρ = some (q, nD j)) (hi : i ≤ lim) (hj : j ≤ lim) : evi cal (.rng2 a b) ρ = some (true, (List.range (j - i)).map fun k => nD (i + k)) := by
  have h3 := nat_rng hi
  have h4 := nat_rng hj
  unfold nD at h h2
  simp only [evi, h, h2]
  rw [if_pos ⟨h3.1, h3.2, h4.1, h4.2⟩, rng_nat]
  rfl
end

/-! ### statements, by what holds behind them -/
theorem ltl {i : Nat} {ρ : Ev} (h : Nat.ble (i + 1) ρ.length = true) : i < ρ.length := Nat.le_of_ble_eq_true h
def W (P : Fl → Ev → Prop) (o : Option (Fl × Ev)) : Prop := ∃ f ρ, o = some (f, ρ) ∧ P f ρ
section
variable {cal : Cal} {fu : Nat} {ρ : Ev} {r : Ss} {P : Fl → Ev → Prop}
def thenP (cal : Cal) (fu : Nat) (r : Ss) (P : Fl → Ev → Prop) : Fl → Ev → Prop
  | .next, ρ => W P (exs cal fu r ρ)
  | f, ρ => P f ρ
def loopP (I : Ev → Prop) (B : Ev → Prop) (P : Fl → Ev → Prop) : Fl → Ev → Prop
  | .next, ρ => I ρ
  | .cont, ρ => I ρ
  | .brk, ρ => B ρ
  | .ret b d, ρ => P (.ret b d) ρ
theorem W.imp {Q : Fl → Ev → Prop} {o : Option (Fl × Ev)} (h : W P o) (k : ∀ f ρ, P f ρ → Q f ρ) : W Q o := by
  obtain ⟨f, ρ, e, q⟩ := h
  exact ⟨f, ρ, e, k _ _ q⟩
theorem W_nil (h : P .next ρ) : W P (exs cal fu .nil ρ) := ⟨_, _, nil_ok, h⟩
theorem W_nilT {r2 : Ss} (h : W P (exs cal fu r2 ρ)) : W (thenP cal fu r2 P) (exs cal fu .nil ρ) := ⟨_, _, nil_ok, h⟩
theorem W_step {s : S} {ρ' : Ev} (h : exS cal fu s ρ = some (.next, ρ')) (k : W P (exs cal fu r ρ')) : W P (exs cal fu (.cons s r) ρ) := by rw [next_ok h]; exact k
theorem W_asg {i : Nat} {e : E} {d : D} (h : ev cal e false ρ = some (true, d)) (hi : i < ρ.length) (k : W P (exs cal fu r (ρ.set i (some (true, d))))) : W P (exs cal fu (.cons (.asg (.n i) e) r) ρ) := W_step (asgn_ok h hi) k
theorem W_app {i : Nat} {e : E} {xs : List D} {d : D} (ho : ownD ρ i = some (.list xs)) (h : ev cal e false ρ = some (true, d)) (hl : xs.length < lim) (k : W P (exs cal fu r (ρ.set i (some (true, .list (xs ++ [d])))))) : W P (exs cal fu (.cons (.app i e) r) ρ) := W_step (app_ok ho h hl) k
theorem W_aug {i : Nat} {o : Bo} {e : E} {b c : Bool} {x y : Int} {w : Bool × D} (hx : ρ[i]? = some (some (b, .int x))) (he : ev cal e false ρ = some (c, .int y)) (hb : binD o (.int x) (.int y) = some w) (k : W P (exs cal fu r (ρ.set i (some w)))) : W P (exs cal fu (.cons (.aug i o e) r) ρ) := W_step (aug_ok hx he hb) k
theorem W_set1 {i : Nat} {k e : E} {xs : List D} {t : Nat} {d : D} {o : Bool} (ho : ownD ρ i = some (.list xs)) (hk : ev cal k false ρ = some (o, nD t)) (he : ev cal e false ρ = some (true, d)) (hl : t < xs.length) (q : W P (exs cal fu r (ρ.set i (some (true, .list (xs.set t d)))))) : W P (exs cal fu (.cons (.set1 i k e) r) ρ) := W_step (set1_lst ho hk he hl) q
theorem W_ret {e : E} {o : Bool} {d : D} (h : ev cal e false ρ = some (o, d)) (k : P (.ret o d) ρ) : W P (exs cal fu (.cons (.ret e) r) ρ) := ⟨_, _, ret_ok h, k⟩
theorem W_retV {i : Nat} {b : Bool} {d : D} (h : ρ[i]? = some (some (b, d))) (k : P (.ret (b || fz d) d) ρ) : W P (exs cal fu (.cons (.retV i) r) ρ) := ⟨_, _, by simp only [exs, exS, getD?, h], k⟩
theorem W_cnt (k : P .cont ρ) : W P (exs cal fu (.cons .cnt r) ρ) := ⟨_, _, by simp only [exs, exS], k⟩
theorem W_brk (k : P .brk ρ) : W P (exs cal fu (.cons .brk r) ρ) := ⟨_, _, by simp only [exs, exS], k⟩
theorem W_nop (k : W P (exs cal fu r ρ)) : W P (exs cal fu (.cons .nop r) ρ) := W_step (by simp only [exS]) k
theorem W_seq {s : S} (h : W (thenP cal fu r P) (exS cal fu s ρ)) : W P (exs cal fu (.cons s r) ρ) := by
  obtain ⟨f, ρ', e, q⟩ := h
  cases f with
  | next =>
    obtain ⟨f2, ρ2, e2, q2⟩ := q
    exact ⟨f2, ρ2, by simp only [exs, e, e2], q2⟩
  | brk => exact ⟨_, _, by simp only [exs, e], q⟩
  | cont => exact ⟨_, _, by simp only [exs, e], q⟩
  | ret b d => exact ⟨_, _, by simp only [exs, e], q⟩
theorem W_ife {c : E} {a b : Ss} {o v : Bool} (h : ev cal c true ρ = some (o, .bool v)) (ka : v = true → W (thenP cal fu r P) (exs cal fu a ρ)) (kb : v = false → W (thenP cal fu r P) (exs cal fu b ρ)) : W P (exs cal fu (.cons (.ife c a b) r) ρ) := by
  refine W_seq ?_
  cases v with
  | true => rw [ife_t h]; exact ka rfl
  | false => rw [ife_f h]; exact kb rfl
theorem forW {α : Type} {enc : α → D} {st : D → Ev → Option Ev} {body : Ev → Option (Fl × Ev)} (I : Nat → Ev → Prop) (B : Ev → Prop) : ∀ {L : List α} {i : Nat} {ρ : Ev}, I i ρ → (∀ j a ρ, L[j]? = some a → I (i + j) ρ → ∃ ρ1, st (enc a) ρ = some ρ1 ∧ W (loopP (I (i + j + 1)) B P) (body ρ1)) → (∀ ρ, I (i + L.length) ρ → P .next ρ) → (∀ ρ, B ρ → P .next ρ) → W P (forD st body (L.map enc) ρ)
  | [], i, ρ, h, _, hn, _ => ⟨_, _, rfl, hn _ h⟩
  | a :: L, i, ρ, h, hs, hn, hb => by
    obtain ⟨ρ1, e1, f, ρ2, e2, q⟩ := hs 0 a ρ rfl h
    have go : I (i + 1) ρ2 → W P (forD st body (L.map enc) ρ2) := fun q => forW I B (L := L) (i := i + 1) q (fun j a ρ hj hp => by
      have := hs (j + 1) a ρ hj (by rw [show i + (j + 1) = i + 1 + j by omega]; exact hp)
      rwa [show i + (j + 1) + 1 = i + 1 + j + 1 by omega] at this) (fun ρ q => hn ρ (by rw [show i + (a :: L).length = i + 1 + L.length by simp; omega]; exact q)) hb
    cases f with
    | next =>
      obtain ⟨f3, ρ3, e3, q3⟩ := go q
      exact ⟨f3, ρ3, by simp only [List.map_cons, forD, e1, e2, e3], q3⟩
    | cont =>
      obtain ⟨f3, ρ3, e3, q3⟩ := go q
      exact ⟨f3, ρ3, by simp only [List.map_cons, forD, e1, e2, e3], q3⟩
    | brk => exact ⟨_, _, by simp only [List.map_cons, forD, e1, e2], hb _ q⟩
    | ret b d => exact ⟨_, _, by simp only [List.map_cons, forD, e1, e2], q⟩
/-- for i in src: I j holds ahead of turn j; B behind a break -/
theorem W_for {α : Type} {enc : α → D} {L : List α} {i : Nat} {src : I} {b : Ss} (I : Nat → Ev → Prop) (B : Ev → Prop) (h : evi cal src ρ = some (true, L.map enc)) (h0 : I 0 ρ) (hlen : ∀ j ρ, I j ρ → i < ρ.length)
    (hs : ∀ j a ρ, L[j]? = some a → I j ρ → W (loopP (I (j + 1)) B P) (exs cal fu b (ρ.set i (some (fz (enc a), enc a))))) (hn : ∀ ρ, I L.length ρ → W P (exs cal fu r ρ)) (hb : ∀ ρ, B ρ → W P (exs cal fu r ρ)) : W P (exs cal fu (.cons (.fore (.n i) src b) r) ρ) := by
  refine W_seq ?_
  rw [fore_ok h]
  refine forW (i := 0) I B h0 (fun j a ρ hj hi => ⟨ρ.set i (some (fz (enc a), enc a)), by simp only [setT, if_pos (hlen _ _ hi), Bool.false_or], ?_⟩) (fun ρ q => hn ρ (by rwa [Nat.zero_add] at q)) hb
  rw [Nat.zero_add] at hi ⊢
  exact (hs j a ρ hj hi).imp fun f ρ q => by cases f <;> exact q
theorem rget {n j a : Nat} (h : (List.range n)[j]? = some a) : j < n ∧ j = a := by
  obtain ⟨h1, h2⟩ := List.getElem?_eq_some_iff.mp h
  rw [List.getElem_range] at h2
  rw [List.length_range] at h1
  exact ⟨h1, h2⟩
/-- for i in range(n) -/
theorem W_rng {n : Nat} {i : Nat} {src : I} {b : Ss} (I : Nat → Ev → Prop) (h : evi cal src ρ = some (true, (List.range n).map nD)) (h0 : I 0 ρ) (hlen : ∀ j ρ, I j ρ → i < ρ.length)
    (hs : ∀ j ρ, j < n → I j ρ → W (loopP (I (j + 1)) (fun _ => False) P) (exs cal fu b (ρ.set i (some (true, nD j))))) (hn : ∀ ρ, I n ρ → W P (exs cal fu r ρ)) : W P (exs cal fu (.cons (.fore (.n i) src b) r) ρ) :=
  W_for (enc := nD) I (fun _ => False) h h0 hlen (fun j a ρ hj hi => by
    obtain ⟨h1, rfl⟩ := rget hj
    exact hs j ρ h1 hi) (fun ρ q => hn ρ (by rwa [List.length_range] at q)) fun _ z => z.elim
/-- for i in range(a, n) -/
theorem W_rng2 {a n : Nat} {i : Nat} {src : I} {b : Ss} (I : Nat → Ev → Prop) (h : evi cal src ρ = some (true, (List.range (n - a)).map fun k => nD (a + k))) (han : a ≤ n) (h0 : I a ρ) (hlen : ∀ j ρ, I j ρ → i < ρ.length)
    (hs : ∀ j ρ, a ≤ j → j < n → I j ρ → W (loopP (I (j + 1)) (fun _ => False) P) (exs cal fu b (ρ.set i (some (true, nD j))))) (hn : ∀ ρ, I n ρ → W P (exs cal fu r ρ)) : W P (exs cal fu (.cons (.fore (.n i) src b) r) ρ) :=
  W_for (enc := fun k => nD (a + k)) (fun j => I (a + j)) (fun _ => False) h h0 (fun j ρ h => hlen _ _ h) (fun j c ρ hj hi => by
    obtain ⟨h1, rfl⟩ := rget hj
    exact hs (a + j) ρ (by omega) (by omega) hi) (fun ρ q => hn ρ (by
    rw [List.length_range, show a + (n - a) = n by omega] at q
    exact q)) fun _ z => z.elim
/-- for t in src, any target -/
theorem W_forT {α : Type} {enc : α → D} {L : List α} {t : T} {src : I} {b : Ss} (I : Nat → Ev → Prop) (B : Ev → Prop) (h : evi cal src ρ = some (true, L.map enc)) (h0 : I 0 ρ)
    (hs : ∀ j a ρ, L[j]? = some a → I j ρ → ∃ ρ1, setT t false (enc a) ρ = some ρ1 ∧ W (loopP (I (j + 1)) B P) (exs cal fu b ρ1)) (hn : ∀ ρ, I L.length ρ → W P (exs cal fu r ρ)) (hb : ∀ ρ, B ρ → W P (exs cal fu r ρ)) : W P (exs cal fu (.cons (.fore t src b) r) ρ) := by
  refine W_seq ?_
  rw [fore_ok h]
  refine forW (i := 0) I B h0 (fun j a ρ hj hi => ?_) (fun ρ q => hn ρ (by rwa [Nat.zero_add] at q)) hb
  rw [Nat.zero_add] at hi ⊢
  obtain ⟨ρ1, e1, q⟩ := hs j a ρ hj hi
  exact ⟨ρ1, e1, q.imp fun f ρ q => by cases f <;> exact q⟩
/-- for t in src, the list shared where it is a name's -/
theorem W_forS {α : Type} {enc : α → D} {L : List α} {t : T} {src : I} {b : Ss} {f : Bool} (I : Nat → Ev → Prop) (B : Ev → Prop) (h : evi cal src ρ = some (f, L.map enc)) (h0 : I 0 (if f then ρ else shareL (vnI src) ρ))
    (hs : ∀ j a ρ, L[j]? = some a → I j ρ → ∃ ρ1, setT t false (enc a) ρ = some ρ1 ∧ W (loopP (I (j + 1)) B P) (exs cal fu b ρ1)) (hn : ∀ ρ, I L.length ρ → W P (exs cal fu r ρ)) (hb : ∀ ρ, B ρ → W P (exs cal fu r ρ)) : W P (exs cal fu (.cons (.fore t src b) r) ρ) := by
  refine W_seq ?_
  have e : exS cal fu (.fore t src b) ρ = forD (fun d ρ => setT t false d ρ) (fun ρ => exs cal fu b ρ) (L.map enc) (if f then ρ else shareL (vnI src) ρ) := by simp only [exS, h]
  rw [e]
  refine forW (i := 0) I B h0 (fun j a ρ hj hi => ?_) (fun ρ q => hn ρ (by rwa [Nat.zero_add] at q)) hb
  rw [Nat.zero_add] at hi ⊢
  obtain ⟨ρ1, e1, q⟩ := hs j a ρ hj hi
  exact ⟨ρ1, e1, q.imp fun f ρ q => by cases f <;> exact q⟩
/-- a new value that the statement shares -/
theorem W_asgS {i : Nat} {e : E} {d : D} (h : ev cal e false ρ = some (false, d)) (hi : i < (shareE (vn e) ρ).length) (k : W P (exs cal fu r ((shareE (vn e) ρ).set i (some (fz d, d))))) : W P (exs cal fu (.cons (.asg (.n i) e) r) ρ) := W_step (by simp only [exS, h, Bool.false_eq_true, if_false, setT, if_pos hi, Bool.false_or, Option.map_some]) k
theorem W_asgT {t : T} {e : E} {d : D} {ρ' : Ev} (h : ev cal e false ρ = some (true, d)) (hs : setT t true d ρ = some ρ') (k : W P (exs cal fu r ρ')) : W P (exs cal fu (.cons (.asg t e) r) ρ) := W_step (by simp only [exS, h, if_true, hs, Option.map_some]) k
/-- while c: I with a measure that falls -/
theorem whW {te : Ev → Option (Bool × D)} {body : Ev → Option (Fl × Ev)} (I : Nat → Ev → Prop) (B : Ev → Prop) : ∀ {n m : Nat} {ρ : Ev}, m < n → I m ρ → (∀ m ρ, I m ρ → ∃ o v, te ρ = some (o, .bool v) ∧ (v = true → W (loopP (fun ρ' => ∃ m', m' < m ∧ I m' ρ') B P) (body ρ)) ∧ (v = false → B ρ)) → (∀ ρ, B ρ → P .next ρ) → W P (whD te body n ρ)
  | 0, m, ρ, h, _, _, _ => absurd h (Nat.not_lt_zero _)
  | n + 1, m, ρ, h, hi, hs, hb => by
    obtain ⟨o, v, e, h1, h2⟩ := hs m ρ hi
    cases v with
    | false => exact ⟨_, _, by simp only [whD, e], hb _ (h2 rfl)⟩
    | true =>
      obtain ⟨f, ρ2, e2, q⟩ := h1 rfl
      have go : (∃ m', m' < m ∧ I m' ρ2) → W P (whD te body n ρ2) := fun ⟨m', hm, hi⟩ => whW I B (by omega) hi hs hb
      cases f with
      | next =>
        obtain ⟨f3, ρ3, e3, q3⟩ := go q
        exact ⟨f3, ρ3, by simp only [whD, e, e2, e3], q3⟩
      | cont =>
        obtain ⟨f3, ρ3, e3, q3⟩ := go q
        exact ⟨f3, ρ3, by simp only [whD, e, e2, e3], q3⟩
      | brk => exact ⟨_, _, by simp only [whD, e, e2], hb _ q⟩
      | ret b d => exact ⟨_, _, by simp only [whD, e, e2], q⟩
theorem W_while {c : E} {b : Ss} (I : Nat → Ev → Prop) (B : Ev → Prop) {m : Nat} (hm : m < fu) (h0 : I m ρ) (hs : ∀ m ρ, I m ρ → ∃ o v, ev cal c true ρ = some (o, .bool v) ∧ (v = true → W (loopP (fun ρ' => ∃ m', m' < m ∧ I m' ρ') B P) (exs cal fu b ρ)) ∧ (v = false → B ρ)) (hb : ∀ ρ, B ρ → W P (exs cal fu r ρ)) : W P (exs cal fu (.cons (.whil c b) r) ρ) := by
  refine W_seq ?_
  have : exS cal fu (.whil c b) ρ = whD (fun ρ => ev cal c true ρ) (fun ρ => exs cal fu b ρ) fu ρ := by simp only [exS]
  rw [this]
  refine whW I B hm h0 (fun m ρ hi => ?_) hb
  obtain ⟨o, v, e, h1, h2⟩ := hs m ρ hi
  exact ⟨o, v, e, fun hv => (h1 hv).imp fun f ρ q => by cases f <;> exact q, h2⟩
/-- a call, by what its body returns -/
theorem calls_W {fns : List Fn} {f np ns : Nat} {b : Ss} {k : Nat} {as : List (Bool × D)} {w : Bool × D} (hf : fns[f]? = some ⟨np, ns, b⟩) (hl : as.length = np ∧ np ≤ ns) (h : W (fun f _ => f = .ret w.1 w.2) (exs (callD fns fu k) fu b (as.map some ++ List.replicate (ns - np) none))) : callD fns fu (k + 1) f as = some w := by
  obtain ⟨f, ρ, e, rfl⟩ := h
  exact calls_ok hf hl e
/-- a call whose value is only known by what holds of it -/
theorem calls_WE {fns : List Fn} {f np ns : Nat} {b : Ss} {fu k : Nat} {as : List (Bool × D)} {Q : D → Prop} (hf : fns[f]? = some ⟨np, ns, b⟩) (hl : as.length = np ∧ np ≤ ns) (h : W (fun f _ => ∃ d, f = .ret true d ∧ Q d) (exs (callD fns fu k) fu b (as.map some ++ List.replicate (ns - np) none))) : ∃ d, callD fns fu (k + 1) f as = some (true, d) ∧ Q d := by
  obtain ⟨f, ρ, e, d, rfl, q⟩ := h
  exact ⟨d, calls_ok hf hl e, q⟩
end
end Den

set_option Elab.async false
set_option linter.all false
set_option maxRecDepth 100000
/-! DenOr: the laws' walk through all orders. -/
namespace Den
open PySem PySem.Spec PyProof.Rows L2 RZ
def ordB : Ss := (.cons (.asg (.n 1) (.lst (.cons (.tup .nil) .nil)))
  (.cons (.fore (.n 2) (.rng1 (.bi .len (.cons (.v 0) .nil))) (.cons (.asg (.n 3) (.lst .nil))
  (.cons (.fore (.n 4) (.e (.v 1)) (.cons (.asg (.n 3) (.bin .add (.v 3) (.lc (.bin .add (.v 4) (.tup (.cons (.v 5) .nil))) (.n 5) (.e (.v 0)) (.so (.cmp .nin (.v 5) (.v 4))) [5])))
  .nil))
  (.cons (.asg (.n 1) (.v 3))
  .nil))))
  (.cons (.retV 1)
  .nil)))
def ordN (its : List Nat) (row : List Nat) : List (List Nat) := (its.filter fun x => !decide (x ∈ row)).map fun x => row ++ [x]
def ordL (its : List Nat) : Nat → List (List Nat)
  | 0 => [[]]
  | k + 1 => (ordL its k).flatMap (ordN its)
theorem ord_tab : ∀ m : Nat, m < 6 → ordL (List.range m) m = ItP.permI m ∧ (∀ k : Nat, k < 7 → (ordL (List.range m) k).length ≤ 120 ∧ ∀ r ∈ ordL (List.range m) k, r.length ≤ 5) := by decide +kernel
theorem perm_lt : ∀ m : Nat, m < 6 → ∀ p ∈ ItP.permI m, p.length = m ∧ ∀ x ∈ p, x < m := by decide +kernel
theorem add_tN1 {a : List Nat} {v : Nat} (h : a.length + 1 ≤ lim) : binD .add (.tuple (a.map nD)) (.tuple [nD v]) = some (true, .tuple ((a ++ [v]).map nD)) := add_tN (b := [v]) h
theorem add_LN {a b : List (List Nat)} (h : a.length + b.length ≤ lim) : binD .add (.list (a.map tN)) (.list (b.map tN)) = some (true, .list ((a ++ b).map tN)) := by
  have e : fzs (a.map tN ++ b.map tN) = true := by
    rw [← List.map_append]
    exact fzs_tNs _
  simp only [binD, List.length_map]
  rw [if_pos h, e, List.map_append]
theorem take_flat {α β : Type} {f : α → List β} {L : List α} {j : Nat} {a : α} (h : L[j]? = some a) : (L.take (j + 1)).flatMap f = (L.take j).flatMap f ++ f a := by
  rw [List.take_add_one, h, List.flatMap_append]
  simp
theorem len_ordN (its row : List Nat) : (ordN its row).length ≤ its.length := by
  unfold ordN
  rw [List.length_map]
  exact List.length_filter_le ..
theorem len_flat_take (its : List Nat) (L : List (List Nat)) (j : Nat) : ((L.take j).flatMap (ordN its)).length ≤ (L.take j).length * its.length := by
  induction (L.take j) with
  | nil => simp
  | cons a r ih =>
    rw [List.flatMap_cons, List.length_append, List.length_cons, Nat.succ_mul]
    have := len_ordN its a
    omega
theorem ord_ok {fns : List Fn} {f : Nat} (hf : fns[f]? = some ⟨1, 6, ordB⟩) (fu k : Nat) {m : Nat} (hm : m < 6) (p : Bool) : ∃ b, callD fns fu (k + 1) f [(p, .tuple ((List.range m).map nD))] = some (b, .list ((ItP.permI m).map tN)) := by
  have lm : (1000 : Nat) < lim := by decide
  obtain ⟨ht, hb⟩ := ord_tab m hm
  suffices h : W (fun f _ => ∃ b, f = .ret b (.list ((ItP.permI m).map tN))) (exs (callD fns fu k) fu ordB ([(p, PyData.tuple ((List.range m).map nD))].map some ++ List.replicate (6 - 1) none)) by
    obtain ⟨f, ρ, e, b, rfl⟩ := h
    exact ⟨b, calls_ok hf ⟨rfl, by decide⟩ e⟩
  unfold ordB
  simp only [List.map_cons, List.map_nil, List.replicate, List.cons_append, List.nil_append]
  apply W_asg (d := .list ((ordL (List.range m) 0).map tN))
  · exact lst1 tup0
  · exact ltl rfl
  (try simp only [List.set_cons_zero, List.set_cons_succ])
  have hlen : ∀ p, biD .len [(p, .tuple ((List.range m).map nD))] = some (true, nD m) := fun p => by simp [biD, nD]
  apply W_rng (n := m) fun j ρ => ∃ q0 s2 s3 s4 s5, ρ = [some (p, .tuple ((List.range m).map nD)), some (q0, .list ((ordL (List.range m) j).map tN)), s2, s3, s4, s5]
  · (repeat' (first | intro _ | (with_reducible exact hlen _) | (with_reducible (first | apply k_lit | apply k_ev)) | ((with_reducible apply v_nD); exact rfl) | ((with_reducible apply v_t); exact rfl; (first | exact rfl | exact fzs_nDs _ | exact fz_tN _)) | ((with_reducible (first | apply v_b | apply v_bf | apply v_lst)); exact rfl) | ((with_reducible apply v_ev); exact rfl) | ((with_reducible (first | apply tup_mp | apply list_mp)); intro _; exact rfl) | ((with_reducible (first | apply sub_nD | apply mod_nD | apply div_nD | apply ix3I)); omega) | (with_reducible (first | apply mul_nn | apply mul_iz | apply mul_zi | apply add_LT | apply add_tI | apply add_tI1 | apply add_tI1n)) | ((with_reducible (first | apply bin_mulL | apply bin_mulR | apply bin_mod | apply bin_fdiv)); decide) | (with_reducible (first | apply eq_nDs | apply ne_nDs | apply lt_nDs | apply gt_nDs | apply le_nDs | apply ge_nDs | apply in_lNs | apply in_tNs | apply nin_lNs | apply nin_tNs | apply eq_is | apply ne_is | apply lt_is | apply gt_is | apply le_is | apply ge_is | apply ge_iz | apply gt_iz | apply lt_iz | apply le_iz | apply eq_iz | apply ne_iz | apply le_zi | apply lt_zi | apply add_zi | apply isT_t | apply add_iz | apply sub_iz | apply gcd_nD | apply sum_tI | apply any_tI | apply slI_0n | apply slI_n0 | apply slI_m1 | apply rev_tI | apply max0 | apply max_ii | apply min_nD | apply max_nD | apply slL_nn | apply sl_DM | apply m1_ev | apply eq_st | apply ne_st | apply eq_bs | apply ne_bs | apply add_nD | apply len_ls | apply len_ts | apply all_bs | apply any_bs | apply int_nD | apply bin_add | apply bin_sub | apply sub_ni | apply sub_iz | apply sub_zi)) | (with_reducible (first | apply bi_t | apply cal_t | apply ga_t | apply bi1 | apply bi2 | apply cal1 | apply cal2 | apply cal3 | apply ix_ev | apply bin_ev | apply cmp_t | apply cmp_v | apply chn_b | apply nt_t | apply an_b | apply ro_b | apply ite_b | apply lcNr | apply lcFr | apply lcN | apply lcF | apply gvNr | apply gvFr | apply gvN | apply gvF | apply rng_nD | apply rng_2 | apply sl_m1 | apply sl_noN | apply sl_onN | apply sl_ooN | apply rev_ev | apply neg_ev)) | (with_reducible (first | apply lst0 | apply lst1 | apply lst2 | apply tup0 | apply tup1 | apply tup2 | apply tup3 | apply tup4 | apply tup5)) | ((with_reducible apply e_ev); ((with_reducible apply v_t); exact rfl; (first | exact rfl | exact fzs_nDs _ | exact fz_tN _)); exact rfl) | ((with_reducible apply e_ev); ((with_reducible apply v_ev); exact rfl); exact rfl) | (with_reducible (first | apply e_ev | apply lst_ev | apply tup_ev | apply evs_c | apply evs_n)) | ((with_reducible apply ltl); exact rfl) | ((with_reducible show itemsD _ = _); exact rfl) | (with_reducible rfl) | (simp only [lim, List.length_range, List.length_map, List.length_append, List.length_replicate, List.length_cons, List.length_nil, List.length_take, List.length_drop, List.length_reverse] at *; omega)))
  · exact ⟨_, _, _, _, _, rfl⟩
  · rintro j _ ⟨q0, s2, s3, s4, s5, rfl⟩
    exact ltl rfl
  · rintro j _ hj ⟨q0, s2, s3, s4, s5, rfl⟩
    (try simp only [List.set_cons_zero, List.set_cons_succ])
    obtain ⟨hlj, hrj⟩ := hb j (by omega)
    apply W_asg (d := .list ((((ordL (List.range m) j).take 0).flatMap (ordN (List.range m))).map tN))
    · exact lst0
    · exact ltl rfl
    (try simp only [List.set_cons_zero, List.set_cons_succ])
    apply W_forS (L := ordL (List.range m) j) (enc := tN) (fun i ρ => ∃ q1 s2 s4 s5, ρ = [some (p, .tuple ((List.range m).map nD)), some (q1, .list ((ordL (List.range m) j).map tN)), s2, some (true, .list ((((ordL (List.range m) j).take i).flatMap (ordN (List.range m))).map tN)), s4, s5]) (fun _ => False) (e_ev (v_ev rfl) rfl)
    · exact ⟨_, _, _, _, rfl⟩
    · rintro i r _ hi ⟨q1, s2, s4, s5, rfl⟩
      have hr := hrj r (List.mem_of_getElem? hi)
      have hl := len_flat_take (List.range m) (ordL (List.range m) j) i
      have hl2 := len_ordN (List.range m) r
      rw [take_flat hi]
      rw [List.length_range, List.length_take] at hl
      rw [List.length_range] at hl2
      have hl3 : min i (ordL (List.range m) j).length * m ≤ 120 * 5 := Nat.mul_le_mul (by omega) (by omega)
      generalize ((ordL (List.range m) j).take i).flatMap (ordN (List.range m)) = acc at hl
      refine ⟨[some (p, .tuple ((List.range m).map nD)), some (q1, .list ((ordL (List.range m) j).map tN)), s2, some (true, .list (acc.map tN)), some (true, tN r), s5], by simp [setT], ?_⟩
      apply W_asg (d := .list ((acc ++ ordN (List.range m) r).map tN))
      · apply bin_ev (v_ev rfl) (y := .list ((ordN (List.range m) r).map tN)) (q := true)
        · have e : (ordN (List.range m) r).map tN = ((List.range m).filter fun x => !decide (x ∈ r)).map fun x => tN (r ++ [x]) := by
            unfold ordN
            rw [List.map_map]; rfl
          rw [e]
          apply lcF (enc := nD) (val := fun x => tN (r ++ [x]))
          · exact e_ev (v_t rfl (fzs_nDs _)) rfl
          · simp; omega
          · exact ltl rfl
          · intro a ha
            show ev _ _ _ (List.set [some (p, .tuple ((List.range m).map nD)), some (q1, .list ((ordL (List.range m) j).map tN)), s2, some (true, .list (acc.map tN)), some (true, .tuple (r.map nD)), s5] _ _) = _
            (try simp only [List.set_cons_zero, List.set_cons_succ])
            (repeat' (first | intro _ | (with_reducible exact hlen _) | (with_reducible (first | apply k_lit | apply k_ev)) | ((with_reducible apply v_nD); exact rfl) | ((with_reducible apply v_t); exact rfl; (first | exact rfl | exact fzs_nDs _ | exact fz_tN _)) | ((with_reducible (first | apply v_b | apply v_bf | apply v_lst)); exact rfl) | ((with_reducible apply v_ev); exact rfl) | ((with_reducible (first | apply tup_mp | apply list_mp)); intro _; exact rfl) | ((with_reducible (first | apply sub_nD | apply mod_nD | apply div_nD | apply ix3I)); omega) | (with_reducible (first | apply mul_nn | apply mul_iz | apply mul_zi | apply add_LT | apply add_tI | apply add_tI1 | apply add_tI1n)) | ((with_reducible (first | apply bin_mulL | apply bin_mulR | apply bin_mod | apply bin_fdiv)); decide) | (with_reducible (first | apply eq_nDs | apply ne_nDs | apply lt_nDs | apply gt_nDs | apply le_nDs | apply ge_nDs | apply in_lNs | apply in_tNs | apply nin_lNs | apply nin_tNs | apply eq_is | apply ne_is | apply lt_is | apply gt_is | apply le_is | apply ge_is | apply ge_iz | apply gt_iz | apply lt_iz | apply le_iz | apply eq_iz | apply ne_iz | apply le_zi | apply lt_zi | apply add_zi | apply isT_t | apply add_iz | apply sub_iz | apply gcd_nD | apply sum_tI | apply any_tI | apply slI_0n | apply slI_n0 | apply slI_m1 | apply rev_tI | apply max0 | apply max_ii | apply min_nD | apply max_nD | apply slL_nn | apply sl_DM | apply m1_ev | apply eq_st | apply ne_st | apply eq_bs | apply ne_bs | apply add_nD | apply len_ls | apply len_ts | apply all_bs | apply any_bs | apply int_nD | apply bin_add | apply bin_sub | apply sub_ni | apply sub_iz | apply sub_zi)) | (with_reducible (first | apply bi_t | apply cal_t | apply ga_t | apply bi1 | apply bi2 | apply cal1 | apply cal2 | apply cal3 | apply ix_ev | apply bin_ev | apply cmp_t | apply cmp_v | apply chn_b | apply nt_t | apply an_b | apply ro_b | apply ite_b | apply lcNr | apply lcFr | apply lcN | apply lcF | apply gvNr | apply gvFr | apply gvN | apply gvF | apply rng_nD | apply rng_2 | apply sl_m1 | apply sl_noN | apply sl_onN | apply sl_ooN | apply rev_ev | apply neg_ev)) | (with_reducible (first | apply lst0 | apply lst1 | apply lst2 | apply tup0 | apply tup1 | apply tup2 | apply tup3 | apply tup4 | apply tup5)) | ((with_reducible apply e_ev); ((with_reducible apply v_t); exact rfl; (first | exact rfl | exact fzs_nDs _ | exact fz_tN _)); exact rfl) | ((with_reducible apply e_ev); ((with_reducible apply v_ev); exact rfl); exact rfl) | (with_reducible (first | apply e_ev | apply lst_ev | apply tup_ev | apply evs_c | apply evs_n)) | ((with_reducible apply ltl); exact rfl) | ((with_reducible show itemsD _ = _); exact rfl) | (with_reducible rfl) | (simp only [lim, List.length_range, List.length_map, List.length_append, List.length_replicate, List.length_cons, List.length_nil, List.length_take, List.length_drop, List.length_reverse] at *; omega)))
          · intro a ha _
            show ev _ _ _ (List.set [some (p, .tuple ((List.range m).map nD)), some (q1, .list ((ordL (List.range m) j).map tN)), s2, some (true, .list (acc.map tN)), some (true, .tuple (r.map nD)), s5] _ _) = some (true, .tuple ((r ++ [a]).map nD))
            (try simp only [List.set_cons_zero, List.set_cons_succ])
            (repeat' (first | intro _ | (with_reducible exact add_tN1 (by omega)) | (with_reducible (first | apply k_lit | apply k_ev)) | ((with_reducible apply v_nD); exact rfl) | ((with_reducible apply v_t); exact rfl; (first | exact rfl | exact fzs_nDs _ | exact fz_tN _)) | ((with_reducible (first | apply v_b | apply v_bf | apply v_lst)); exact rfl) | ((with_reducible apply v_ev); exact rfl) | ((with_reducible (first | apply tup_mp | apply list_mp)); intro _; exact rfl) | ((with_reducible (first | apply sub_nD | apply mod_nD | apply div_nD | apply ix3I)); omega) | (with_reducible (first | apply mul_nn | apply mul_iz | apply mul_zi | apply add_LT | apply add_tI | apply add_tI1 | apply add_tI1n)) | ((with_reducible (first | apply bin_mulL | apply bin_mulR | apply bin_mod | apply bin_fdiv)); decide) | (with_reducible (first | apply eq_nDs | apply ne_nDs | apply lt_nDs | apply gt_nDs | apply le_nDs | apply ge_nDs | apply in_lNs | apply in_tNs | apply nin_lNs | apply nin_tNs | apply eq_is | apply ne_is | apply lt_is | apply gt_is | apply le_is | apply ge_is | apply ge_iz | apply gt_iz | apply lt_iz | apply le_iz | apply eq_iz | apply ne_iz | apply le_zi | apply lt_zi | apply add_zi | apply isT_t | apply add_iz | apply sub_iz | apply gcd_nD | apply sum_tI | apply any_tI | apply slI_0n | apply slI_n0 | apply slI_m1 | apply rev_tI | apply max0 | apply max_ii | apply min_nD | apply max_nD | apply slL_nn | apply sl_DM | apply m1_ev | apply eq_st | apply ne_st | apply eq_bs | apply ne_bs | apply add_nD | apply len_ls | apply len_ts | apply all_bs | apply any_bs | apply int_nD | apply bin_add | apply bin_sub | apply sub_ni | apply sub_iz | apply sub_zi)) | (with_reducible (first | apply bi_t | apply cal_t | apply ga_t | apply bi1 | apply bi2 | apply cal1 | apply cal2 | apply cal3 | apply ix_ev | apply bin_ev | apply cmp_t | apply cmp_v | apply chn_b | apply nt_t | apply an_b | apply ro_b | apply ite_b | apply lcNr | apply lcFr | apply lcN | apply lcF | apply gvNr | apply gvFr | apply gvN | apply gvF | apply rng_nD | apply rng_2 | apply sl_m1 | apply sl_noN | apply sl_onN | apply sl_ooN | apply rev_ev | apply neg_ev)) | (with_reducible (first | apply lst0 | apply lst1 | apply lst2 | apply tup0 | apply tup1 | apply tup2 | apply tup3 | apply tup4 | apply tup5)) | ((with_reducible apply e_ev); ((with_reducible apply v_t); exact rfl; (first | exact rfl | exact fzs_nDs _ | exact fz_tN _)); exact rfl) | ((with_reducible apply e_ev); ((with_reducible apply v_ev); exact rfl); exact rfl) | (with_reducible (first | apply e_ev | apply lst_ev | apply tup_ev | apply evs_c | apply evs_n)) | ((with_reducible apply ltl); exact rfl) | ((with_reducible show itemsD _ = _); exact rfl) | (with_reducible rfl) | (simp only [lim, List.length_range, List.length_map, List.length_append, List.length_replicate, List.length_cons, List.length_nil, List.length_take, List.length_drop, List.length_reverse] at *; omega)))
        · exact add_LN (by omega)
      · exact ltl rfl
      apply W_nil
      exact ⟨_, _, _, _, rfl⟩
    · rintro _ ⟨q1, s2, s4, s5, rfl⟩
      rw [List.take_length]
      apply W_asgS (v_l rfl)
      · exact ltl rfl
      apply W_nil
      exact ⟨_, _, _, _, _, rfl⟩
    · exact fun _ z => z.elim
  · rintro _ ⟨q0, s2, s3, s4, s5, rfl⟩
    rw [ht]
    exact W_retV rfl ⟨_, rfl⟩

/-! ### more steps -/
theorem pick {l : List Nat} {i lo hi : Nat} (hi0 : i < l.length) (h : ∀ x ∈ l, lo ≤ x ∧ x ≤ hi) : ∃ n, lo ≤ n ∧ n ≤ hi ∧ (l.map fun x => (true, nD x))[i]? = some (true, nD n) := by
  have := h l[i] (List.getElem_mem hi0)
  exact ⟨l[i], this.1, this.2, by simp [hi0]⟩
theorem pow6 : binD .pow (nD 10) (nD 6) = some (true, nD 1000000) := bin_powG (i := 10) (j := 6) ⟨by decide, by decide, by decide⟩
theorem cal4 {cal : Cal} {ρ : Ev} {a b c d : E} {x y z u : D} {p q r p2 : Bool} {f : Nat} {w : Bool × D} (h : ev cal a false ρ = some (p, x)) (h2 : ev cal b false ρ = some (q, y)) (h3 : ev cal c false ρ = some (r, z)) (h4 : ev cal d false ρ = some (p2, u)) (hf : cal f [(p, x), (q, y), (r, z), (p2, u)] = some w) : ev cal (.cal f (.cons a (.cons b (.cons c (.cons d .nil))))) false ρ = some w := by
  simp only [ev, evs, h, h2, h3, h4, hf, Option.bind_some, Option.map_some, fin, Bool.false_eq_true, if_false]
theorem W_augN {cal : Cal} {fu : Nat} {ρ : Ev} {r : Ss} {P : Fl → Ev → Prop} {i : Nat} {e : E} {b c : Bool} {x y : Nat} (hx : ρ[i]? = some (some (b, nD x))) (he : ev cal e false ρ = some (c, nD y)) (k : W P (exs cal fu r (ρ.set i (some (true, nD (x + y)))))) : W P (exs cal fu (.cons (.aug i .add e) r) ρ) := W_aug hx he (add_nD x y) k
theorem W_popAt {cal : Cal} {fu : Nat} {ρ : Ev} {r : Ss} {P : Fl → Ev → Prop} {t i : Nat} {k : E} {l : List Nat} {j : Nat} {o : Bool} (ho : ownD ρ i = some (.list (l.map nD))) (hk : ev cal k false ρ = some (o, nD j)) (hj : j < l.length) (hl : l.length ≤ lim) (ht : t < ρ.length) (q : W P (exs cal fu r ((ρ.set i (some (true, .list ((l.eraseIdx j).map nD)))).set t (some (true, nD (l.getD j 0)))))) : W P (exs cal fu (.cons (.popAt (.n t) i k) r) ρ) := by
  refine W_step ?_ q
  have hx : ixN (l.map nD).length (j : Int) = some j := ixN_nat (by simpa using hj)
  have hz : (l.map nD)[j]? = some (nD (l.getD j 0)) := by simp [hj]
  have he : (l.map nD).eraseIdx j = (l.eraseIdx j).map nD := by rw [List.eraseIdx_eq_take_drop_succ, List.eraseIdx_eq_take_drop_succ, List.map_append, List.map_take, List.map_drop]
  simp only [exS, ho, hk]
  show (if (l.map nD).length ≤ lim then (match ixN (l.map nD).length (j : Int) with
    | none => none
    | some m => match (l.map nD)[m]? with
      | none => none
      | some z => (setT (.n t) true z (ρ.set i (some (true, .list ((l.map nD).eraseIdx m))))).map fun ρ => (Fl.next, ρ)) else none) = _
  rw [if_pos (by rw [List.length_map]; exact hl), hx]
  simp only [hz, he, setT, List.length_set, if_pos ht, Bool.true_or, Option.map_some]
/-- what permutes a list of images is a list of images -/
theorem perm_map {α β : Type} (f : α → β) {l : List α} {ys : List β} (h : ys.Perm (l.map f)) : ∃ l' : List α, l'.Perm l ∧ ys = l'.map f := by
  obtain ⟨zs, hz⟩ : ∃ zs, zs = l.map f := ⟨_, rfl⟩
  rw [← hz] at h
  induction h generalizing l with
  | nil =>
    cases l with
    | nil => exact ⟨[], .nil, rfl⟩
    | cons _ _ => cases hz
  | cons x _ ih =>
    cases l with
    | nil => cases hz
    | cons a r =>
      cases hz
      obtain ⟨l', h1, rfl⟩ := ih rfl
      exact ⟨a :: l', h1.cons a, rfl⟩
  | swap x y r =>
    cases l with
    | nil => cases hz
    | cons a r2 => cases r2 with
      | nil => cases hz
      | cons b r3 =>
        cases hz
        exact ⟨b :: a :: r3, .swap .., rfl⟩
  | trans _ _ ih1 ih2 =>
    obtain ⟨l2, h2, rfl⟩ := ih2 hz
    obtain ⟨l1, h1, rfl⟩ := ih1 rfl
    exact ⟨l1, h1.trans h2, rfl⟩
/-! ### tuples of numbers, in order -/
section
open PySem.W (alike alikeAll dataLt)
def lexB : List Nat → List Nat → Bool
  | _, [] => false
  | [], _ :: _ => true
  | x :: a, y :: b => if x = y then lexB a b else decide (x < y)
theorem ltT' {x y : D} (xs ys : List D) (h : alike x y = true) : dataLt (.tuple (x :: xs)) (.tuple (y :: ys)) = if PyData.eqv x y = true then dataLt (.tuple xs) (.tuple ys) else dataLt x y := by
  rw [PySem.W.dataLt_tuple, PySem.W.dataLt_cons h, PySem.W.dataLt_tuple]
theorem lt_tN : ∀ a b : List Nat, dataLt (tN a) (tN b) = lexB a b
  | [], [] => by
    show dataLt (.tuple []) (.tuple []) = _
    rw [PySem.W.dataLt_tuple]; rfl
  | _ :: _, [] => by
    show dataLt (.tuple (_ :: _)) (.tuple []) = _
    rw [PySem.W.dataLt_tuple, PySem.W.keyToksAll, PySem.W.keyToksAll]; rfl
  | [], _ :: _ => by
    show dataLt (.tuple []) (.tuple (_ :: _)) = _
    rw [PySem.W.dataLt_tuple, PySem.W.keyToksAll, PySem.W.keyToksAll]; rfl
  | x :: a, y :: b => by
    show dataLt (.tuple (nD x :: a.map nD)) (.tuple (nD y :: b.map nD)) = _
    rw [ltT' _ _ rfl, eqv_nD]
    have ih := lt_tN a b
    unfold tN at ih
    rw [ih]
    unfold nD
    rw [PySem.W.dataLt_int, lexB]
    by_cases h : x = y
    · rw [if_pos (by simpa using h), if_pos h]
    · rw [if_neg (by simpa using h), if_neg h]
      exact decide_eq_decide.mpr (by omega)
theorem alikeN : ∀ a b : List Nat, alikeAll (a.map nD) (b.map nD) = true
  | [], _ => by rw [List.map_nil, alikeAll]
  | _ :: _, [] => by rw [List.map_nil, List.map_cons, alikeAll]
  | x :: a, y :: b => by
    rw [List.map_cons, List.map_cons, alikeAll, alikeN a b]; rfl
theorem alike_tN (a b : List Nat) : alike (tN a) (tN b) = true := by
  unfold tN
  rw [alike, alikeN]
theorem lexB_irr : ∀ a : List Nat, lexB a a = false
  | [] => rfl
  | x :: a => by rw [lexB, if_pos rfl, lexB_irr a]
theorem lexB_tri : ∀ a b : List Nat, lexB a b = true ∨ a = b ∨ lexB b a = true
  | [], [] => .inr (.inl rfl)
  | [], _ :: _ => .inl rfl
  | _ :: _, [] => .inr (.inr rfl)
  | x :: a, y :: b => by
    by_cases h : x = y
    · subst h
      rw [lexB, lexB, if_pos rfl, if_pos rfl]
      rcases lexB_tri a b with h | h | h
      · exact .inl h
      · exact .inr (.inl (by rw [h]))
      · exact .inr (.inr h)
    · rw [lexB, lexB, if_neg h, if_neg fun z => h z.symm]
      rcases Nat.lt_or_gt_of_ne h with q | q
      · exact .inl (decide_eq_true q)
      · exact .inr (.inr (decide_eq_true q))
theorem lexB_trans : ∀ {a b c : List Nat}, lexB a b = true → lexB b c = true → lexB a c = true
  | _, [], _, h, _ => by cases ‹List Nat› <;> simp [lexB] at h
  | _, _ :: _, [], _, h => by simp [lexB] at h
  | [], _ :: _, _ :: _, _, _ => rfl
  | x :: a, y :: b, z :: c, h, h2 => by
    rw [lexB] at h h2 ⊢
    by_cases e : x = y
    · subst e
      rw [if_pos rfl] at h
      by_cases e2 : x = z
      · rw [if_pos e2] at h2 ⊢
        exact lexB_trans h h2
      · rw [if_neg e2] at h2 ⊢
        exact h2
    · rw [if_neg e] at h
      have h := of_decide_eq_true h
      by_cases e2 : y = z
      · subst e2
        rw [if_neg e]
        exact decide_eq_true h
      · rw [if_neg e2] at h2
        have h2 := of_decide_eq_true h2
        rw [if_neg (by omega)]
        exact decide_eq_true (by omega)
theorem lexB_asym {a b : List Nat} (h : lexB a b = true) : lexB b a = false := by
  cases h2 : lexB b a with
  | false => rfl
  | true =>
    have := lexB_trans h h2
    rw [lexB_irr] at this
    cases this
def leB (a b : List Nat) : Bool := !lexB b a
theorem leB_total (a b : List Nat) : (leB a b || leB b a) = true := by
  unfold leB
  rcases lexB_tri a b with h | h | h
  · rw [lexB_asym h]; rfl
  · subst h
    rw [lexB_irr]; rfl
  · rw [lexB_asym h]; simp
theorem leB_iff {a b : List Nat} : leB a b = true ↔ lexB a b = true ∨ a = b := by
  unfold leB
  constructor
  · intro h
    rcases lexB_tri a b with q | q | q
    · exact .inl q
    · exact .inr q
    · rw [q] at h; cases h
  · rintro (h | h)
    · rw [lexB_asym h]; rfl
    · subst h
      rw [lexB_irr]; rfl
theorem leB_trans (a b c : List Nat) (h : leB a b = true) (h2 : leB b c = true) : leB a c = true := by
  rw [leB_iff] at *
  rcases h with h | rfl
  · rcases h2 with h2 | rfl
    · exact .inl (lexB_trans h h2)
    · exact .inl h
  · exact h2
theorem leB_anti {a b : List Nat} (h : leB a b = true) (h2 : leB b a = true) : a = b := by
  rw [leB_iff] at *
  rcases h with h | h
  · rcases h2 with h2 | h2
    · rw [lexB_asym h] at h2; cases h2
    · exact h2.symm
  · exact h
def sortN (L : List (List Nat)) : List (List Nat) := L.mergeSort leB
theorem sortN_perm (L : List (List Nat)) : (sortN L).Perm L := List.mergeSort_perm L leB
theorem sortN_sorted (L : List (List Nat)) : (sortN L).Pairwise fun a b => leB a b = true := List.pairwise_mergeSort leB_trans leB_total L
/-- in order and with the same items: the same -/
theorem sortN_uniq {a b : List (List Nat)} (h : a.Perm b) (ha : a.Pairwise fun x y => leB x y = true) (hb : b.Pairwise fun x y => leB x y = true) : a = b :=
  h.eq_of_pairwise (fun x y _ _ h1 h2 => leB_anti h1 h2) ha hb
theorem sh_tNs (L : List (List Nat)) : SeqAt.shaped (.list (L.map tN)) = true := shp_sh (n := 2) (shp_list (n := 1) (shp_map fun z => shp_tup (n := 0) (shp_map (shp_nD 0)))) (by decide)
theorem sh_ttNs (L : List (List Nat)) : SeqAt.shaped (.tuple (L.map tN)) = true := shp_sh (n := 2) (shp_tup (n := 1) (shp_map fun z => shp_tup (n := 0) (shp_map (shp_nD 0)))) (by decide)
theorem sort_tN {L : List (List Nat)} (hb : ∀ z ∈ L, z ≠ []) (hl : L.length ≤ lim) : sortD (L.map tN) = some ((sortN L).map tN) := by
  unfold sortD
  have a1 : alikeL (L.map tN) = true := by
    unfold alikeL
    simp only [List.all_eq_true]
    intro x hx y hy
    obtain ⟨z, _, rfl⟩ := List.mem_map.mp hx
    obtain ⟨z', _, rfl⟩ := List.mem_map.mp hy
    exact alike_tN z z'
  have a2 : sortableB (L.map tN) = true := by
    unfold sortableB
    rw [Bool.or_eq_true]
    left
    simp only [List.all_eq_true]
    intro x hx
    obtain ⟨z, hz, rfl⟩ := List.mem_map.mp hx
    cases z with
    | nil => exact absurd rfl (hb _ hz)
    | cons _ _ => rfl
  have a4 : (L.map tN).length ≤ lim := by rw [List.length_map]; omega
  rw [a1, a2, sh_tNs, decide_eq_true a4]
  have e := List.map_mergeSort (r := leB) (s := PySem.W.dataLe false id) (f := tN) (l := L) fun z _ y _ => by
    show leB z y = !dataLt (tN y) (tN z)
    rw [lt_tN]; rfl
  unfold sortL
  rw [← e]
  rfl
theorem bi_sortL {L : List (List Nat)} (hb : ∀ z ∈ L, z ≠ []) (hl : L.length ≤ lim) (p : Bool) : biD .sorted [(p, .list (L.map tN))] = some (true, .list ((sortN L).map tN)) := by
  simp only [biD, sort_tN hb hl, fzs_tNs, if_true, Option.map_some]
theorem bi_sortT {L : List (List Nat)} (hb : ∀ z ∈ L, z ≠ []) (hl : L.length ≤ lim) (p : Bool) : biD .sorted [(p, .tuple (L.map tN))] = some (true, .list ((sortN L).map tN)) := by
  simp only [biD, sort_tN hb hl, fzs_tNs, if_true, Option.map_some]
theorem lt_tNs (a b : List Nat) : cmpD .lt (tN a) (tN b) = some (lexB a b) := by
  have h := lt_tN a b
  have h2 := alike_tN a b
  have h3 := sh_tN a
  have h4 := sh_tN b
  unfold tN at *
  simp only [cmpD, ltD, h, h2, h3, h4, Bool.and_self, if_true]
theorem gt_tNs (a b : List Nat) : cmpD .gt (tN a) (tN b) = some (lexB b a) := lt_tNs b a
theorem in_LN (a : List Nat) (L : List (List Nat)) : inD (tN a) (L.map tN) = some (decide (a ∈ L)) := by
  unfold inD
  have eqv_tN : ∀ x y : List Nat, PyData.eqv (tN x) (tN y) = decide (x = y) := fun x y => by rw [tN, tN, PyData.eqv, eqvAll_map eqv_nD]
  rw [sh_tN, sh_tNs, any_eqv eqv_tN]
  simp
theorem in_lNN (a : List Nat) (L : List (List Nat)) : cmpD .inn (tN a) (.list (L.map tN)) = some (decide (a ∈ L)) := in_LN a L
theorem in_tNN (a : List Nat) (L : List (List Nat)) : cmpD .inn (tN a) (.tuple (L.map tN)) = some (decide (a ∈ L)) := in_LN a L
theorem nin_lNN (a : List Nat) (L : List (List Nat)) : cmpD .nin (tN a) (.list (L.map tN)) = some (!decide (a ∈ L)) := by
  have := in_LN a L
  simp only [cmpD]
  rw [this]; rfl
theorem nin_tNN (a : List Nat) (L : List (List Nat)) : cmpD .nin (tN a) (.tuple (L.map tN)) = some (!decide (a ∈ L)) := by
  have := in_LN a L
  simp only [cmpD]
  rw [this]; rfl
end
/-- the statements behind n -/
def tl : Nat → Ss → Ss
  | 0, s => s
  | n + 1, .cons _ r => tl n r
  | _ + 1, .nil => .nil
theorem tupr {n : Nat} (h : n ≤ 1000) (p : Bool) : biD .tupRng1 [(p, nD n)] = some (true, .tuple ((List.range n).map nD)) := by
  simp only [biD, nD]
  rw [if_pos (by omega), rng_0]; rfl
theorem listr {n : Nat} (h : n ≤ 1000) (p : Bool) : biD .listRng1 [(p, nD n)] = some (true, .list ((List.range n).map nD)) := by
  simp only [biD, nD]
  rw [if_pos (by omega), rng_0]; rfl
end Den

set_option Elab.async false
set_option maxRecDepth 100000
namespace k19
open PySem PySem.Spec PyProof.Rows L2 RZ Den
def top (i : Nat) : Stmt := PySem.Challenge.pw_cupworthy_k19_whole_ballots_and_nearest.main.body.getD i (.Pass ⟨0, 0, 0, 0⟩)
def g : Gs := ⟨[("margin", (0, 3)), ("margins", (1, 2)), ("beater", (2, 2)), ("sums_of_places", (3, 2)), ("distance", (4, 2)), ("nearest_order", (5, 2)), ("_law_cell", (6, 2)), ("_law_draws", (7, 2)), ("_law_is_integer", (8, 1)), ("_law_is", (9, 2)), ("_law_orders", (10, 1)), ("_law_distance", (11, 2)), ("_law_ballots", (12, 4)), ("law", (13, 1))],
  ["len", "abs", "int", "sum", "min", "list", "tuple", "all", "range", "isinstance", "bool", "str"], [], [("combinations", .type "itertools.combinations"), ("permutations", .type "itertools.permutations")], []⟩
def ds : List FD := [
  FD.of (top 2) "margin" ["ballots", "i", "j"] ["ballots", "i", "j", "ahead", "ballot"] [6000004],
  FD.of (top 3) "margins" ["n", "ballots"] ["n", "ballots", "i", "j"] [],
  FD.of (top 4) "beater" ["n", "ballots"] ["n", "ballots", "rows", "team", "other"] [],
  FD.of (top 5) "sums_of_places" ["n", "ballots"] ["n", "ballots", "team", "ballot"] [6000015],
  FD.of (top 6) "distance" ["ballots", "order"] ["ballots", "order", "number", "one", "other", "ballot"] [6000019],
  FD.of (top 7) "nearest_order" ["n", "ballots"] ["n", "ballots", "best", "order", "number"] [],
  FD.of (top 9) "_law_cell" ["script", "k"] ["script", "k"] [],
  FD.of (top 10) "_law_draws" ["cell", "count"] ["cell", "count", "rest", "digits", "seed", "draws", "k", "mixed"] [],
  FD.of (top 11) "_law_is_integer" ["value"] ["value"] [],
  FD.of (top 12) "_law_is" ["value", "due"] ["value", "due", "at"] [],
  FD.of (top 13) "_law_orders" ["items"] ["items", "found", "turn", "longer", "row", "item"] [],
  FD.of (top 14) "_law_distance" ["ballots", "order"] ["ballots", "order", "number", "at", "other", "ballot"] [6000073],
  FD.of (top 15) "_law_ballots" ["script", "draws", "n", "count"] ["script", "draws", "n", "count", "found", "at", "part", "left", "calm", "ballot", "k", "place"] [7000085],
  FD.of (top 16) "law" ["script"] ["script", "draws", "n", "ballots", "rows", "i", "row", "j", "ahead", "good", "orders", "numbers", "due", "k", "order", "ballot", "at"] [6000097, 6000105, 6000109]]
end k19

set_option Elab.async false
set_option linter.all false
set_option maxRecDepth 100000
namespace k19
open PySem PySem.Spec PyProof.Rows L2 RZ Den
def fns : List Fn := (cProg g ds).getD []
theorem fns_ok : cProg g ds = some fns := by
  have h : (cProg g ds).isSome = true := by kernel_rfl
  unfold fns
  cases hh : cProg g ds with
  | none => rw [hh] at h; cases h
  | some x => rfl
end k19

set_option Elab.async false
set_option maxRecDepth 100000
namespace k19
open PySem PySem.Spec PyProof.Rows L2 RZ Den
/-- margin: 0 ballots, 1 i, 2 j, 3 ahead, 4 ballot -/
def b_0 : Ss := (.cons (.asg (.n 3) (.bi .len (.cons (.lc (.v 4) (.n 4) (.e (.v 0)) (.so (.cmp .lt (.tidx (.v 4) (.v 1)) (.tidx (.v 4) (.v 2)))) [4]) .nil)))
  (.cons (.ret (.bin .sub (.bin .mul (.k (.int 2)) (.v 3)) (.bi .len (.cons (.v 0) .nil))))
  .nil))
theorem f_0 : fns[0]? = some ⟨3, 5, b_0⟩ := by kernel_rfl
/-- margins: 0 n, 1 ballots, 2 i, 3 j -/
def b_1 : Ss := (.cons (.ret (.bi .tuple (.cons (.lc (.bi .tuple (.cons (.lc (.ite (.cmp .eq (.v 2) (.v 3)) (.k (.int 0)) (.cal 0 (.cons (.v 1) (.cons (.v 2) (.cons (.v 3) .nil))))) (.n 3) (.rng1 (.v 0)) .no [3]) .nil)) (.n 2) (.rng1 (.v 0)) .no [2]) .nil)))
  .nil)
theorem f_1 : fns[1]? = some ⟨2, 4, b_1⟩ := by kernel_rfl
/-- beater: 0 n, 1 ballots, 2 rows, 3 team, 4 other -/
def b_2 : Ss := (.cons (.asg (.n 2) (.cal 1 (.cons (.v 0) (.cons (.v 1) .nil))))
  (.cons (.fore (.n 3) (.rng1 (.v 0)) (.cons (.ife (.ga true (.cmp .gt (.ix (.ix (.v 2) (.v 3)) (.v 4)) (.k (.int 0))) (.n 4) (.rng1 (.v 0)) (.so (.cmp .ne (.v 4) (.v 3))) [4]) (.cons (.retV 3)
  .nil) .nil)
  .nil))
  (.cons (.ret (.k .none))
  .nil)))
theorem f_2 : fns[2]? = some ⟨2, 5, b_2⟩ := by kernel_rfl
/-- sums_of_places: 0 n, 1 ballots, 2 team, 3 ballot -/
def b_3 : Ss := (.cons (.ret (.bi .tuple (.cons (.lc (.bi .sum (.cons (.lc (.tidx (.v 3) (.v 2)) (.n 3) (.e (.v 1)) .no [3]) .nil)) (.n 2) (.rng1 (.v 0)) .no [2]) .nil)))
  .nil)
theorem f_3 : fns[3]? = some ⟨2, 4, b_3⟩ := by kernel_rfl
/-- distance: 0 ballots, 1 order, 2 number, 3 one, 4 other, 5 ballot -/
def b_4 : Ss := (.cons (.asg (.n 2) (.k (.int 0)))
  (.cons (.fore (.t (.cons (.n 3) (.cons (.n 4) .nil))) (.cbV (.v 1) (.k (.int 2))) (.cons (.aug 2 .add (.bi .len (.cons (.lc (.v 5) (.n 5) (.e (.v 0)) (.so (.cmp .lt (.tidx (.v 5) (.v 4)) (.tidx (.v 5) (.v 3)))) [5]) .nil)))
  .nil))
  (.cons (.retV 2)
  .nil)))
theorem f_4 : fns[4]? = some ⟨2, 6, b_4⟩ := by kernel_rfl
/-- nearest_order: 0 n, 1 ballots, 2 best, 3 order, 4 number -/
def b_5 : Ss := (.cons (.asg (.n 2) (.k .none))
  (.cons (.fore (.n 3) (.pmR (.v 0)) (.cons (.asg (.n 4) (.cal 4 (.cons (.v 1) (.cons (.v 3) .nil))))
  (.cons (.ife (.ro (.cmp .isN (.v 2) (.k .none)) (.cmp .lt (.v 4) (.ix (.v 2) (.k (.int 0))))) (.cons (.asg (.n 2) (.tup (.cons (.v 4) (.cons (.bi .tuple (.cons (.v 3) .nil)) .nil))))
  .nil) .nil)
  .nil)))
  (.cons (.ret (.ix (.v 2) (.k (.int 1))))
  .nil)))
theorem f_5 : fns[5]? = some ⟨2, 5, b_5⟩ := by kernel_rfl
/-- _law_cell: 0 script, 1 k -/
def b_6 : Ss := (.cons (.ife (.cmp .lt (.v 1) (.bi .len (.cons (.v 0) .nil))) (.cons (.ret (.ix (.v 0) (.v 1)))
  .nil) .nil)
  (.cons (.ret (.bin .add (.bin .mul (.k (.int 5)) (.v 1)) (.k (.int 3))))
  .nil))
theorem f_6 : fns[6]? = some ⟨2, 2, b_6⟩ := by kernel_rfl
/-- _law_draws: 0 cell, 1 count, 2 rest, 3 digits, 4 seed, 5 draws, 6 k, 7 mixed -/
def b_7 : Ss := (.cons (.asg (.n 2) (.bi .abs (.cons (.bi .int (.cons (.v 0) .nil)) .nil)))
  (.cons (.asg (.n 3) (.cmp .ge (.v 2) (.bin .pow (.k (.int 10)) (.k (.int 18)))))
  (.cons (.asg (.n 4) (.v 2))
  (.cons (.asg (.n 5) (.lst .nil))
  (.cons (.fore (.n 6) (.rng1 (.v 1)) (.cons (.ife (.an (.v 3) (.cmp .gt (.v 2) (.k (.int 0)))) (.cons (.app 5 (.bin .mod (.bi .int (.cons (.v 2) .nil)) (.k (.int 5040))))
  (.cons (.asg (.n 2) (.bin .fdiv (.v 2) (.k (.int 5040))))
  .nil)) (.cons (.asg (.n 7) (.bin .mod (.bi .int (.cons (.bin .add (.bin .add (.bin .mul (.v 4) (.k (.int 48271))) (.bin .mul (.bin .add (.v 6) (.k (.int 1))) (.k (.int 69621)))) (.k (.int 11))) .nil)) (.k (.int 2147483647))))
  (.cons (.asg (.n 7) (.bin .mod (.bi .int (.cons (.bin .add (.bin .mul (.v 7) (.v 7)) (.bin .mul (.k (.int 40692)) (.bin .add (.v 6) (.k (.int 3))))) .nil)) (.k (.int 2147483399))))
  (.cons (.app 5 (.bin .mod (.bi .int (.cons (.bin .fdiv (.v 7) (.k (.int 64))) .nil)) (.k (.int 5040))))
  .nil))))
  .nil))
  (.cons (.retV 5)
  .nil))))))
theorem f_7 : fns[7]? = some ⟨2, 8, b_7⟩ := by kernel_rfl
/-- _law_is_integer: 0 value -/
def b_8 : Ss := (.cons (.ret (.an (.bi .isInt (.cons (.v 0) .nil)) (.nt (.bi .isBool (.cons (.v 0) .nil)))))
  .nil)
theorem f_8 : fns[8]? = some ⟨1, 1, b_8⟩ := by kernel_rfl
/-- _law_is: 0 value, 1 due, 2 at -/
def b_9 : Ss := (.cons (.ife (.cmp .isN (.v 1) (.k .none)) (.cons (.ret (.cmp .isN (.v 0) (.k .none)))
  .nil) .nil)
  (.cons (.ife (.bi .isBool (.cons (.v 1) .nil)) (.cons (.ret (.an (.bi .isBool (.cons (.v 0) .nil)) (.cmp .eq (.v 0) (.v 1))))
  .nil) .nil)
  (.cons (.ife (.bi .isInt (.cons (.v 1) .nil)) (.cons (.ret (.an (.cal 8 (.cons (.v 0) .nil)) (.cmp .eq (.v 0) (.v 1))))
  .nil) .nil)
  (.cons (.ife (.bi .isStr (.cons (.v 1) .nil)) (.cons (.ret (.an (.bi .isStr (.cons (.v 0) .nil)) (.cmp .eq (.v 0) (.v 1))))
  .nil) .nil)
  (.cons (.ife (.ro (.nt (.bi .isTuple (.cons (.v 0) .nil))) (.cmp .ne (.bi .len (.cons (.v 0) .nil)) (.bi .len (.cons (.v 1) .nil)))) (.cons (.ret (.k (.bool false)))
  .nil) .nil)
  (.cons (.ret (.bi .all (.cons (.lc (.cal 9 (.cons (.ix (.v 0) (.v 2)) (.cons (.ix (.v 1) (.v 2)) .nil))) (.n 2) (.rng1 (.bi .len (.cons (.v 1) .nil))) .no [2]) .nil)))
  .nil))))))
theorem f_9 : fns[9]? = some ⟨2, 3, b_9⟩ := by kernel_rfl
/-- _law_orders: 0 items, 1 found, 2 turn, 3 longer, 4 row, 5 item -/
def b_10 : Ss := (.cons (.asg (.n 1) (.lst (.cons (.tup .nil) .nil)))
  (.cons (.fore (.n 2) (.rng1 (.bi .len (.cons (.v 0) .nil))) (.cons (.asg (.n 3) (.lst .nil))
  (.cons (.fore (.n 4) (.e (.v 1)) (.cons (.asg (.n 3) (.bin .add (.v 3) (.lc (.bin .add (.v 4) (.tup (.cons (.v 5) .nil))) (.n 5) (.e (.v 0)) (.so (.cmp .nin (.v 5) (.v 4))) [5])))
  .nil))
  (.cons (.asg (.n 1) (.v 3))
  .nil))))
  (.cons (.retV 1)
  .nil)))
theorem f_10 : fns[10]? = some ⟨1, 6, b_10⟩ := by kernel_rfl
/-- _law_distance: 0 ballots, 1 order, 2 number, 3 at, 4 other, 5 ballot -/
def b_11 : Ss := (.cons (.asg (.n 2) (.k (.int 0)))
  (.cons (.fore (.n 3) (.rng1 (.bi .len (.cons (.v 1) .nil))) (.cons (.fore (.n 4) (.e (.sl (.v 1) (.so (.bin .add (.v 3) (.k (.int 1)))) .no)) (.cons (.asg (.n 2) (.bin .add (.v 2) (.bi .len (.cons (.lc (.v 5) (.n 5) (.e (.v 0)) (.so (.cmp .lt (.tidx (.v 5) (.v 4)) (.tidx (.v 5) (.ix (.v 1) (.v 3))))) [5]) .nil))))
  .nil))
  .nil))
  (.cons (.retV 2)
  .nil)))
theorem f_11 : fns[11]? = some ⟨2, 6, b_11⟩ := by kernel_rfl
/-- _law_ballots: 0 script, 1 draws, 2 n, 3 count, 4 found, 5 at, 6 part, 7 left, 8 calm, 9 ballot, 10 k, 11 place -/
def b_12 : Ss := (.cons (.asg (.n 4) (.lst .nil))
  (.cons (.fore (.n 5) (.rng1 (.v 3)) (.cons (.asg (.n 6) (.cal 7 (.cons (.bin .add (.cal 6 (.cons (.v 0) (.cons (.bin .add (.k (.int 1)) (.bin .mod (.v 5) (.k (.int 4)))) .nil))) (.bin .mul (.k (.int 7919)) (.bin .fdiv (.v 5) (.k (.int 4))))) (.cons (.bin .add (.v 2) (.k (.int 1))) .nil))))
  (.cons (.asg (.n 7) (.bi .listRng1 (.cons (.v 2) .nil)))
  (.cons (.asg (.n 8) (.cmp .eq (.bin .mod (.bi .int (.cons (.ix (.v 1) (.k (.int 3))) .nil)) (.k (.int 3))) (.k (.int 1))))
  (.cons (.asg (.n 9) (.lst .nil))
  (.cons (.fore (.n 10) (.rng1 (.v 2)) (.cons (.asg (.n 11) (.bin .mod (.bi .int (.cons (.ix (.v 6) (.v 10)) .nil)) (.bi .len (.cons (.v 7) .nil))))
  (.cons (.popA 9 7 (.ite (.an (.v 8) (.cmp .gt (.bi .len (.cons (.v 7) .nil)) (.k (.int 1)))) (.bin .mod (.v 11) (.k (.int 2))) (.v 11)))
  .nil)))
  (.cons (.app 4 (.tupX (.v 9)))
  .nil)))))))
  (.cons (.ife (.cmp .eq (.bin .mod (.bi .int (.cons (.ix (.v 1) (.k (.int 4))) .nil)) (.k (.int 3))) (.k (.int 1))) (.cons (.asg (.n 4) (.sl (.bin .mul (.v 4) (.k (.int 3))) .no (.so (.k (.int 20)))))
  .nil) .nil)
  (.cons (.ret (.bi .tuple (.cons (.v 4) .nil)))
  .nil))))
theorem f_12 : fns[12]? = some ⟨4, 12, b_12⟩ := by kernel_rfl
/-- law: 0 script, 1 draws, 2 n, 3 ballots, 4 rows, 5 i, 6 row, 7 j, 8 ahead, 9 good, 10 orders, 11 numbers, 12 due, 13 k, 14 order, 15 ballot, 16 at -/
def b_13 : Ss := (.cons (.asg (.n 1) (.cal 7 (.cons (.cal 6 (.cons (.v 0) (.cons (.k (.int 0)) .nil))) (.cons (.k (.int 12)) .nil))))
  (.cons (.asg (.n 2) (.ix (.tup (.cons (.k (.int 4)) (.cons (.k (.int 3)) (.cons (.k (.int 5)) (.cons (.k (.int 2)) (.cons (.k (.int 1)) .nil)))))) (.bin .mod (.bi .int (.cons (.ix (.v 1) (.k (.int 0))) .nil)) (.k (.int 5)))))
  (.cons (.asg (.n 3) (.cal 12 (.cons (.v 0) (.cons (.v 1) (.cons (.v 2) (.cons (.ix (.tup (.cons (.k (.int 3)) (.cons (.k (.int 5)) (.cons (.k (.int 2)) (.cons (.k (.int 8)) (.cons (.k (.int 20)) (.cons (.k (.int 1)) .nil))))))) (.bin .mod (.bi .int (.cons (.ix (.v 1) (.k (.int 1))) .nil)) (.k (.int 6)))) .nil))))))
  (.cons (.asg (.n 4) (.lst .nil))
  (.cons (.fore (.n 5) (.rng1 (.v 2)) (.cons (.asg (.n 6) (.lst .nil))
  (.cons (.fore (.n 7) (.rng1 (.v 2)) (.cons (.asg (.n 8) (.bi .len (.cons (.lc (.v 15) (.n 15) (.e (.v 3)) (.so (.cmp .lt (.tidx (.v 15) (.v 5)) (.tidx (.v 15) (.v 7)))) [15]) .nil)))
  (.cons (.app 6 (.ite (.cmp .eq (.v 5) (.v 7)) (.k (.int 0)) (.bin .sub (.v 8) (.bin .sub (.bi .len (.cons (.v 3) .nil)) (.v 8)))))
  .nil)))
  (.cons (.app 4 (.bi .tuple (.cons (.v 6) .nil)))
  .nil))))
  (.cons (.ife (.nt (.cal 9 (.cons (.cal 1 (.cons (.v 2) (.cons (.v 3) .nil))) (.cons (.bi .tuple (.cons (.v 4) .nil)) .nil)))) (.cons (.ret (.k (.bool false)))
  .nil) .nil)
  (.cons (.asg (.n 9) (.lc (.v 5) (.n 5) (.rng1 (.v 2)) (.so (.bi .all (.cons (.lc (.cmp .gt (.ix (.ix (.v 4) (.v 5)) (.v 7)) (.k (.int 0))) (.n 7) (.rng1 (.v 2)) (.so (.cmp .ne (.v 7) (.v 5))) [7]) .nil))) [5]))
  (.cons (.ife (.nt (.cal 9 (.cons (.cal 2 (.cons (.v 2) (.cons (.v 3) .nil))) (.cons (.ite (.cmp .gt (.bi .len (.cons (.v 9) .nil)) (.k (.int 0))) (.ix (.v 9) (.k (.int 0))) (.k .none)) .nil)))) (.cons (.ret (.k (.bool false)))
  .nil) .nil)
  (.cons (.ife (.nt (.cal 9 (.cons (.cal 3 (.cons (.v 2) (.cons (.v 3) .nil))) (.cons (.bi .tuple (.cons (.lc (.bi .sum (.cons (.lc (.tidx (.v 15) (.v 5)) (.n 15) (.e (.v 3)) .no [15]) .nil)) (.n 5) (.rng1 (.v 2)) .no [5]) .nil)) .nil)))) (.cons (.ret (.k (.bool false)))
  .nil) .nil)
  (.cons (.asg (.n 10) (.cal 10 (.cons (.bi .tupRng1 (.cons (.v 2) .nil)) .nil)))
  (.cons (.asg (.n 11) (.lc (.cal 11 (.cons (.v 3) (.cons (.v 14) .nil))) (.n 14) (.e (.v 10)) .no [14]))
  (.cons (.asg (.n 12) (.ix (.v 10) (.tidx (.v 11) (.bi .min1 (.cons (.v 11) .nil)))))
  (.cons (.ife (.nt (.cal 9 (.cons (.cal 5 (.cons (.v 2) (.cons (.v 3) .nil))) (.cons (.v 12) .nil)))) (.cons (.ret (.k (.bool false)))
  .nil) .nil)
  (.cons (.ife (.ro (.an (.cmp .gt (.bi .len (.cons (.v 9) .nil)) (.k (.int 0))) (.cmp .ne (.ix (.v 12) (.k (.int 0))) (.ix (.v 9) (.k (.int 0))))) (.nt (.bi .all (.cons (.lc (.cmp .ge (.ix (.ix (.v 4) (.ix (.v 12) (.v 16))) (.ix (.v 12) (.bin .add (.v 16) (.k (.int 1))))) (.k (.int 0))) (.n 16) (.rng1 (.bin .sub (.v 2) (.k (.int 1)))) .no [16]) .nil)))) (.cons (.ret (.k (.bool false)))
  .nil) .nil)
  (.cons (.fore (.n 5) (.rng1 (.v 2)) (.cons (.ife (.nt (.bi .all (.cons (.lc (.cmp .eq (.bin .mod (.bin .sub (.ix (.ix (.v 4) (.v 5)) (.v 7)) (.bi .len (.cons (.v 3) .nil))) (.k (.int 2))) (.k (.int 0))) (.n 7) (.rng1 (.v 2)) (.so (.cmp .ne (.v 7) (.v 5))) [7]) .nil))) (.cons (.ret (.k (.bool false)))
  .nil) .nil)
  .nil))
  (.cons (.fore (.n 13) (.rng1 (.k (.int 3))) (.cons (.asg (.n 14) (.ix (.v 10) (.bin .mod (.bi .int (.cons (.ix (.v 1) (.bin .add (.k (.int 5)) (.v 13))) .nil)) (.bi .len (.cons (.v 10) .nil)))))
  (.cons (.ife (.nt (.cal 9 (.cons (.cal 4 (.cons (.v 3) (.cons (.v 14) .nil))) (.cons (.cal 11 (.cons (.v 3) (.cons (.v 14) .nil))) .nil)))) (.cons (.ret (.k (.bool false)))
  .nil) .nil)
  .nil)))
  (.cons (.ret (.k (.bool true)))
  .nil)))))))))))))))))
theorem f_13 : fns[13]? = some ⟨1, 17, b_13⟩ := by kernel_rfl
end k19

set_option Elab.async false
set_option linter.all false
set_option maxRecDepth 100000
/-! K19p: ballots, margins, distances, nearest orders. -/
namespace k19
open PySem PySem.Spec PyProof.Rows L2 RZ Den
abbrev Bl := List Nat
def bx (b : Bl) : D := boxD (b.map fun i : Nat => (i : Int))
def bef (b : Bl) (i j : Nat) : Bool := decide (b.idxOf i < b.idxOf j)
def ahead (B : List Bl) (i j : Nat) : Nat := (B.filter fun b => bef b i j).length
def mg (B : List Bl) (i j : Nat) : Int := if i = j then 0 else 2 * (ahead B i j : Int) - (B.length : Int)
/-- one stands before the other in an order: the ballots that say otherwise -/
def ups (B : List Bl) (a c : Nat) : Nat := ahead B c a
def dist (B : List Bl) : List Nat → Nat
  | [] => 0
  | a :: r => (r.map (ups B a)).sum + dist B r
def good (n : Nat) (B : List Bl) (i : Nat) : Bool := ((List.range n).filter fun j => !decide (j = i)).all fun j => decide (0 < mg B i j)
def PermN (n : Nat) (b : Bl) : Prop := b.Perm (List.range n)
theorem sumN_perm {a b : List Nat} (h : a.Perm b) : a.sum = b.sum := by
  induction h with
  | nil => rfl
  | cons x _ ih => rw [List.sum_cons, List.sum_cons, ih]
  | swap x y l => rw [List.sum_cons, List.sum_cons, List.sum_cons, List.sum_cons]; omega
  | trans _ _ ih1 ih2 => rw [ih1, ih2]
theorem dist_swap (B : List Bl) (x y : Nat) (l2 : List Nat) : ∀ l1 : List Nat, dist B (l1 ++ x :: y :: l2) + ups B y x = dist B (l1 ++ y :: x :: l2) + ups B x y
  | [] => by
    simp only [List.nil_append, dist, List.map_cons, List.sum_cons]
    omega
  | a :: l1 => by
    have ih := dist_swap B x y l2 l1
    have hp : (l1 ++ x :: y :: l2).Perm (l1 ++ y :: x :: l2) := (List.Perm.swap y x l2).append_left l1
    have hs := sumN_perm (hp.map (ups B a))
    simp only [List.cons_append, dist]
    omega
theorem flt_add {α : Type} (p q : α → Bool) : ∀ L : List α, (∀ a ∈ L, q a = !p a) → (L.filter p).length + (L.filter q).length = L.length
  | [], _ => rfl
  | a :: r, h => by
    have ih := flt_add p q r fun b hb => h b (List.mem_cons_of_mem _ hb)
    have ha := h a (List.mem_cons_self ..)
    rw [List.filter_cons, List.filter_cons, ha]
    cases p a
    · simp; omega
    · simp; omega
theorem idx_inj {b : Bl} {i j : Nat} (hi : i ∈ b) (hj : j ∈ b) (h : b.idxOf i = b.idxOf j) : i = j := by
  have h1 := List.getElem_idxOf (List.idxOf_lt_length_iff.mpr hi)
  have h2 := List.getElem_idxOf (List.idxOf_lt_length_iff.mpr hj)
  rw [← h1, ← h2]
  congr 1
theorem ahead_add {n : Nat} {B : List Bl} (hB : ∀ b ∈ B, PermN n b) {i j : Nat} (hi : i < n) (hj : j < n) (hne : i ≠ j) : ahead B i j + ahead B j i = B.length := by
  refine flt_add _ _ B fun b hb => ?_
  have h1 : i ∈ b := (hB b hb).mem_iff.mpr (List.mem_range.mpr hi)
  have h2 : j ∈ b := (hB b hb).mem_iff.mpr (List.mem_range.mpr hj)
  have h3 : b.idxOf i ≠ b.idxOf j := fun h => hne (idx_inj h1 h2 h)
  unfold bef
  rw [← decide_not]
  exact decide_eq_decide.mpr (by omega)
/-! orders -/
def swp (p : List Nat) (i : Nat) : List Nat := p.take i ++ p.getD (i + 1) 0 :: p.getD i 0 :: p.drop (i + 2)
theorem swp_tab : ∀ m : Nat, m < 6 → ∀ p ∈ ItP.permI m, p.isPerm (List.range m) = true ∧ ∀ i : Nat, i < m - 1 → swp p i ∈ ItP.permI m := by decide +kernel
theorem perm_ne : ∀ m : Nat, m < 6 → ItP.permI m ≠ [] := by decide +kernel
theorem comb_tab : ItP.combI 0 2 = [] ∧ ItP.combI 1 2 = [] ∧ ItP.combI 2 2 = [[0, 1]] ∧ ItP.combI 3 2 = [[0, 1], [0, 2], [1, 2]] ∧ ItP.combI 4 2 = [[0, 1], [0, 2], [0, 3], [1, 2], [1, 3], [2, 3]] ∧ ItP.combI 5 2 = [[0, 1], [0, 2], [0, 3], [0, 4], [1, 2], [1, 3], [1, 4], [2, 3], [2, 4], [3, 4]] := by decide +kernel
theorem split_at {p : List Nat} {i : Nat} (h : i + 1 < p.length) : p = p.take i ++ p.getD i 0 :: p.getD (i + 1) 0 :: p.drop (i + 2) := by
  have e1 : p.drop i = p.getD i 0 :: p.drop (i + 1) := by
    rw [List.drop_eq_getElem_cons (by omega)]
    simp [show i < p.length by omega]
  have e2 : p.drop (i + 1) = p.getD (i + 1) 0 :: p.drop (i + 2) := by
    rw [List.drop_eq_getElem_cons h]
    simp [h]
  rw [← e2, ← e1, List.take_append_drop]
/-- the pairs of an order -/
def prs (o : List Nat) : List (Nat × Nat) := (ItP.combI o.length 2).map fun p => (o.getD (p.getD 0 0) 0, o.getD (p.getD 1 0) 0)
theorem dist_prs (B : List Bl) {o : List Nat} (h : o.length < 6) : ((prs o).map fun e => ups B e.1 e.2).sum = dist B o := by
  obtain ⟨c0, c1, c2, c3, c4, c5⟩ := comb_tab
  unfold prs
  match o, h with
  | [], _ => rw [show ([] : List Nat).length = 0 from rfl, c0]; rfl
  | [a], _ => rw [show [a].length = 1 from rfl, c1]; rfl
  | [a, b], _ => rw [show [a, b].length = 2 from rfl, c2]; simp [dist]
  | [a, b, c], _ => rw [show [a, b, c].length = 3 from rfl, c3]; simp [dist]; omega
  | [a, b, c, d], _ => rw [show [a, b, c, d].length = 4 from rfl, c4]; simp [dist]; omega
  | [a, b, c, d, e], _ => rw [show [a, b, c, d, e].length = 5 from rfl, c5]; simp [dist]; omega
  | a :: b :: c :: d :: e :: f :: r, h => simp at h; omega
theorem dist_rng (B : List Bl) : ∀ o : List Nat, ((List.range o.length).map fun i => ((o.drop (i + 1)).map (ups B (o.getD i 0))).sum).sum = dist B o
  | [] => rfl
  | a :: r => by
    have ih := dist_rng B r
    rw [List.length_cons, List.range_succ_eq_map, List.map_cons, List.sum_cons, List.map_map, dist, ← ih]
    rfl
/-- the first order with the least distance -/
def Best (B : List Bl) (L : List (List Nat)) (i : Nat) : Prop := i < L.length ∧ (∀ k, k < L.length → dist B (L.getD i []) ≤ dist B (L.getD k [])) ∧ ∀ k, k < i → dist B (L.getD i []) < dist B (L.getD k [])
theorem neigh {n : Nat} (hn : n < 6) {B : List Bl} (hB : ∀ b ∈ B, PermN n b) {o : List Nat} (ho : o ∈ ItP.permI n) (hm : ∀ q ∈ ItP.permI n, dist B o ≤ dist B q) {i : Nat} (hi : i < n - 1) : 0 ≤ mg B (o.getD i 0) (o.getD (i + 1) 0) := by
  obtain ⟨h1, h2⟩ := swp_tab n hn o ho
  have hlen : o.length = n := by
    have := (List.isPerm_iff.mp h1).length_eq
    rwa [List.length_range] at this
  have hlt : ∀ k, k < n → o.getD k 0 < n := fun k hk => by
    have e : o.getD k 0 = o[k]'(by omega) := by simp [show k < o.length by omega]
    rw [e]
    exact List.mem_range.mp ((List.isPerm_iff.mp h1).mem_iff.mp (List.getElem_mem _))
  have hle := hm _ (h2 i hi)
  have hsp := split_at (p := o) (i := i) (by omega)
  have hsw := dist_swap B (o.getD i 0) (o.getD (i + 1) 0) (o.drop (i + 2)) (o.take i)
  rw [← hsp] at hsw
  unfold swp at hle
  unfold mg
  split
  · exact Int.le_refl _
  · rename_i hne
    have ha := ahead_add hB (hlt i (by omega)) (hlt (i + 1) (by omega)) hne
    unfold ups at hsw
    omega
theorem mg_neg {n : Nat} {B : List Bl} (hB : ∀ b ∈ B, PermN n b) {i j : Nat} (hi : i < n) (hj : j < n) : mg B i j = -mg B j i := by
  unfold mg
  by_cases e : i = j
  · rw [if_pos e, if_pos e.symm]; rfl
  · rw [if_neg e, if_neg fun z => e z.symm]
    have := ahead_add hB hi hj e
    omega
theorem first {n : Nat} (hn : n < 6) {B : List Bl} (hB : ∀ b ∈ B, PermN n b) {o : List Nat} (ho : o ∈ ItP.permI n) (hm : ∀ q ∈ ItP.permI n, dist B o ≤ dist B q) {g : Nat} (hg : g < n) (hgood : good n B g = true) : o.getD 0 0 = g := by
  obtain ⟨h1, _⟩ := swp_tab n hn o ho
  have hp := List.isPerm_iff.mp h1
  have hlen : o.length = n := by
    have := hp.length_eq
    rwa [List.length_range] at this
  have hgm : g ∈ o := hp.mem_iff.mpr (List.mem_range.mpr hg)
  obtain ⟨k, hk, ek⟩ := List.mem_iff_getElem.mp hgm
  have eg : o.getD k 0 = g := by simp [hk, ek]
  cases k with
  | zero => exact eg
  | succ k =>
    exfalso
    have hb := neigh hn hB ho hm (i := k) (by omega)
    rw [eg] at hb
    have hx : o.getD k 0 < n := by
      have e : o.getD k 0 = o[k]'(by omega) := by simp [show k < o.length by omega]
      rw [e]
      exact List.mem_range.mp (hp.mem_iff.mp (List.getElem_mem _))
    have hnd : o.Nodup := hp.nodup_iff.mpr List.nodup_range
    have hne : o.getD k 0 ≠ g := fun z => by
      have e : o.getD k 0 = o[k]'(by omega) := by simp [show k < o.length by omega]
      rw [e, ← ek] at z
      exact (List.pairwise_iff_getElem.mp hnd) k (k + 1) (by omega) hk (by omega) z
    have hgo := List.all_eq_true.mp hgood (o.getD k 0) (List.mem_filter.mpr ⟨List.mem_range.mpr hx, by simpa using hne⟩)
    have hgo := of_decide_eq_true hgo
    rw [mg_neg hB hx hg] at hb
    omega
end k19

set_option Elab.async false
set_option linter.all false
set_option maxRecDepth 100000
/-! K19w: walks over ballots. -/
namespace k19
open PySem PySem.Spec PyProof.Rows L2 RZ Den
def BD (B : List Bl) : D := .tuple (B.map bx)
theorem all_isI (b : Bl) : ((b.map fun i : Nat => (i : Int)).map PyData.int).all isI = true := by
  rw [List.all_map]
  exact List.all_eq_true.mpr fun _ _ => rfl
@[simp] theorem fz_bx (b : Bl) : fz (bx b) = true := by
  show fz (.dict [(.none, .tuple ((b.map fun i : Nat => (i : Int)).map .int))]) = true
  rw [fz]
  exact all_isI b
@[simp] theorem fz_BD (B : List Bl) : fz (BD B) = true := fzs_map _ _ fz_bx
theorem fz_pr (a : Nat) (l : List Nat) : fz (.tuple [nD a, tN l]) = true := by
  rw [fz, fzs, fzs, fzs, fz_tN]; rfl
theorem len_BD (B : List Bl) (p : Bool) : biD .len [(p, BD B)] = some (true, nD B.length) := by simp [biD, BD, nD]
theorem box_of (b : Bl) : boxOf [(.none, .tuple ((b.map fun i : Nat => (i : Int)).map .int))] = some (b.map fun i : Nat => (i : Int)) := intsD_map _
theorem find_nat (b : List Nat) (i : Nat) (h : i ∈ b) : ((b.map fun i : Nat => (i : Int)).findIdx? fun x => decide (x = (i : Int))) = some (b.idxOf i) := by
  rw [List.findIdx?_eq_some_iff_getElem]
  have hl := List.idxOf_lt_length_iff.mpr h
  refine ⟨by rw [List.length_map]; exact hl, ?_, fun j hj => ?_⟩
  · rw [List.getElem_map, List.getElem_idxOf hl]
    exact decide_eq_true rfl
  · rw [List.getElem_map]
    have h8 := List.not_of_lt_findIdx (p := fun x => x == i) (xs := b) hj
    simp only [decide_eq_true_eq]
    intro z
    have h9 : b[j]'(by have := List.idxOf_lt_length_iff.mpr h; omega) = i := by omega
    rw [h9] at h8
    simp at h8
section
variable {cal : Cal} {ρ : Ev}
theorem tidx_ev {a e : E} {b : Bl} {i : Nat} {p q : Bool} (h : ev cal a false ρ = some (p, bx b)) (h2 : ev cal e false ρ = some (q, nD i)) (hi : i ∈ b) : ev cal (.tidx a e) false ρ = some (true, nD (b.idxOf i)) := by
  have e1 := box_of b
  have e2 := find_nat b i hi
  unfold bx boxD at h
  unfold nD at h2
  simp only [ev, fin, Bool.false_eq_true, if_false, h, e1, h2, e2, Option.map_some]
  rfl
theorem tidx_lst {a e : E} {b : List Nat} {i : Nat} {p q : Bool} (h : ev cal a false ρ = some (p, .list (b.map nD))) (h2 : ev cal e false ρ = some (q, nD i)) (hi : i ∈ b) : ev cal (.tidx a e) false ρ = some (true, nD (b.idxOf i)) := by
  have e1 : intsD (b.map nD) = some (b.map fun i : Nat => (i : Int)) := by
    have := intsD_map (b.map fun i : Nat => (i : Int))
    rw [List.map_map] at this
    exact this
  have e2 := find_nat b i hi
  unfold nD at h2
  simp only [ev, fin, Bool.false_eq_true, if_false, h, e1, h2, e2, Option.map_some]
  rfl
/-- the number of ballots that have one before the other -/
theorem ah_ev {B : List Bl} {s src i j : Nat} {ea eb : E} {pq : Bool} (hs : ρ[src]? = some (some (pq, BD B))) (hsl : s < ρ.length) (ha : ∀ x, ev cal ea false (ρ.set s x) = some (true, nD i)) (hb : ∀ x, ev cal eb false (ρ.set s x) = some (true, nD j)) (hB : ∀ b ∈ B, i ∈ b ∧ j ∈ b) (hl : B.length ≤ 1000) : ev cal (.bi .len (.cons (.lc (.v s) (.n s) (.e (.v src)) (.so (.cmp .lt (.tidx (.v s) ea) (.tidx (.v s) eb))) [s]) .nil)) false ρ = some (true, nD (ahead B i j)) := by
  have lm : (1000 : Nat) < lim := by decide
  have hget : ∀ x : Option (Bool × D), (ρ.set s x)[s]? = some x := fun x => by simp [hsl]
  refine bi1 (p := true) (x := .list ((B.filter fun b => bef b i j).map bx)) ?_ ?_
  · apply lcF (L := B) (enc := bx) (val := bx) (p := fun b => bef b i j) (o := fun _ => true)
    · exact e_ev (v_t hs (fz_BD B)) rfl
    · omega
    · exact hsl
    · intro b hbm
      exact cmp_t (tidx_ev (v_ev (hget _)) (ha _) (hB b hbm).1) (tidx_ev (v_ev (hget _)) (hb _) (hB b hbm).2) (lt_nDs _ _)
    · intro b hbm _
      exact v_t (hget _) (fz_bx b)
  · simp only [biD, List.length_map]
    rfl
theorem pm_ev {a : E} {p : Bool} {n : Nat} (h : ev cal a false ρ = some (p, nD n)) (hn : n < 6) : evi cal (.pmR a) ρ = some (true, (ItP.permI n).map tN) := by
  unfold nD at h
  simp only [evi, h]
  rw [if_pos (by omega)]
  refine congrArg (fun l => some (true, l)) ?_
  rw [show ((n : Int)).toNat = n by omega]
  refine List.map_congr_left fun q hq => ?_
  unfold tN rowD
  congr 1
  refine List.map_congr_left fun x hx => ?_
  rw [rng_0]
  have := (perm_lt n hn q hq).2 x hx
  simp [this, nD]
theorem comb_lt : ∀ m : Nat, m < 6 → ∀ p ∈ ItP.combI m 2, p.length = 2 ∧ ∀ x ∈ p, x < m := by decide +kernel
theorem cb_ev {a b : E} {p q : Bool} {o : List Nat} (h : ev cal a false ρ = some (p, tN o)) (h2 : ev cal b false ρ = some (q, nD 2)) (ho : o.length < 6) : evi cal (.cbV a b) ρ = some (true, (prs o).map fun e => .tuple [nD e.1, nD e.2]) := by
  unfold tN at h
  unfold nD at h2
  simp only [evi, h, h2]
  rw [if_pos ⟨⟨by rw [List.length_map]; omega, fzs_nDs o⟩, by decide, by decide⟩, List.length_map]
  refine congrArg (fun l => some (true, l)) ?_
  unfold prs
  rw [List.map_map]
  refine List.map_congr_left fun r hr => ?_
  obtain ⟨h1, h2⟩ := comb_lt o.length ho r hr
  match r, h1 with
  | [x, y], _ =>
    have hx := h2 x (by simp)
    have hy := h2 y (by simp)
    show PyData.tuple [(o.map nD).getD x .none, (o.map nD).getD y .none] = .tuple [nD (o.getD x 0), nD (o.getD y 0)]
    simp [hx, hy]
end
section
variable (fu k : Nat) {n : Nat} {B : List Bl} (hn : n < 6) (hB : ∀ b ∈ B, PermN n b) (hl : B.length ≤ 20)
include hn hB hl
theorem mem_b {i : Nat} (hi : i < n) : ∀ b ∈ B, i ∈ b := fun b hb => (hB b hb).mem_iff.mpr (List.mem_range.mpr hi)
theorem margin_ok {i j : Nat} (hi : i < n) (hj : j < n) (p q s : Bool) : callD fns fu (k + 1) 0 [(p, BD B), (q, nD i), (s, nD j)] = some (true, .int (2 * (ahead B i j : Int) - (B.length : Int))) := by
  have lm : (1000 : Nat) < lim := by decide
  refine calls_W f_0 ⟨rfl, by decide⟩ ?_
  unfold b_0
  simp only [List.map_cons, List.map_nil, List.replicate, List.cons_append, List.nil_append]
  apply W_asg (d := nD (ahead B i j))
  · exact ah_ev rfl (ltl rfl) (fun _ => v_nD rfl) (fun _ => v_nD rfl) (fun b hb => ⟨mem_b hn hB hl hi b hb, mem_b hn hB hl hj b hb⟩) (by omega)
  · exact ltl rfl
  (try simp only [List.set_cons_zero, List.set_cons_succ])
  apply W_ret
  · refine bin_ev (p := true) (q := true) (x := nD (2 * ahead B i j)) (bin_ev k_lit (v_nD rfl) (mul_nD (by decide))) (bi1 (v_t rfl (fz_BD B)) (len_BD B _)) ((sub_ni _ _).trans ?_)
    rw [Int.natCast_mul]
  · rfl
def rowM (n : Nat) (B : List Bl) (i : Nat) : D := .tuple ((List.range n).map fun j => .int (mg B i j))
def MT (n : Nat) (B : List Bl) : D := .tuple ((List.range n).map (rowM n B))
omit hn hB hl in
@[simp] theorem fz_rowM (i : Nat) : fz (rowM n B i) = true := fzs_map _ _ fun _ => rfl
omit hn hB hl in
@[simp] theorem fz_MT : fz (MT n B) = true := fzs_map _ _ fun i => fz_rowM (n := n) (B := B) i
omit hn hB hl in
theorem ix_MT {i : Nat} (h : i < n) : ixD (MT n B) (nD i) = some (true, rowM n B i) := by
  refine (ix_tup (x := rowM n B i) (by simp [h])).trans ?_
  rw [fz_rowM]
omit hn hB hl in
theorem ix_rowM {i j : Nat} (h : j < n) : ixD (rowM n B i) (nD j) = some (true, .int (mg B i j)) := ix_tup (x := .int (mg B i j)) (by simp [h])
theorem margins_ok (p q : Bool) : callD fns fu (k + 2) 1 [(p, nD n), (q, BD B)] = some (true, MT n B) := by
  have lm : (1000 : Nat) < lim := by decide
  refine calls_W f_1 ⟨rfl, by decide⟩ ?_
  unfold b_1
  simp only [List.map_cons, List.map_nil, List.replicate, List.cons_append, List.nil_append]
  apply W_ret
  · refine bi1 (p := true) (x := .list ((List.range n).map (rowM n B))) ?_ (tup_mp fun i => fz_rowM (n := n) (B := B) i)
    apply lcNr (n := n) (val := rowM n B)
    · exact v_nD rfl
    · omega
    · exact ltl rfl
    · intro i hi
      (try simp only [List.set_cons_zero, List.set_cons_succ])
      refine bi1 (p := true) (x := .list ((List.range n).map fun j => .int (mg B i j))) ?_ (tup_mp fun _ => rfl)
      apply lcNr (n := n) (val := fun j => .int (mg B i j))
      · exact v_nD rfl
      · omega
      · exact ltl rfl
      · intro j hj
        (try simp only [List.set_cons_zero, List.set_cons_succ])
        unfold mg
        have hc : ∀ ρ : Ev, ρ[2]? = some (some (true, nD i)) → ρ[3]? = some (some (true, nD j)) → ev (callD fns fu (k + 1)) (.cmp .eq (.v 2) (.v 3)) true ρ = some (true, .bool (decide (i = j))) := fun ρ h2 h3 => cmp_t (v_nD h2) (v_nD h3) (eq_nDs _ _)
        by_cases z : i = j
        · rw [if_pos z]
          exact ite_t ((hc _ rfl rfl).trans (by rw [decide_eq_true z])) k_ev
        · rw [if_neg z]
          exact ite_f ((hc _ rfl rfl).trans (by rw [decide_eq_false z])) (cal3 (v_t rfl (fz_BD B)) (v_nD rfl) (v_nD rfl) (margin_ok fu k hn hB hl hi hj _ _ _))
  · rfl
def btD (n : Nat) (B : List Bl) : D := match (List.range n).find? (good n B) with
  | some t => nD t
  | none => .none
theorem beater_ok (p q : Bool) : callD fns fu (k + 3) 2 [(p, nD n), (q, BD B)] = some (true, btD n B) := by
  have lm : (1000 : Nat) < lim := by decide
  refine calls_W f_2 ⟨rfl, by decide⟩ ?_
  unfold b_2
  simp only [List.map_cons, List.map_nil, List.replicate, List.cons_append, List.nil_append]
  apply W_asg (d := MT n B)
  · exact cal2 (v_nD rfl) (v_t rfl (fz_BD B)) (margins_ok fu k hn hB hl _ _)
  · exact ltl rfl
  (try simp only [List.set_cons_zero, List.set_cons_succ])
  apply W_rng (n := n) fun j ρ => ∃ (s3 s4 : _), ρ = [some (p, nD n), some (q, BD B), some (true, MT n B), s3, s4] ∧ ∀ i, i < j → good n B i = false
  · exact rng_nD (v_nD rfl) (by omega)
  · exact ⟨_, _, rfl, fun i h => absurd h (Nat.not_lt_zero _)⟩
  · rintro j _ ⟨s3, s4, rfl, _⟩
    exact ltl rfl
  · rintro t _ ht ⟨s3, s4, rfl, hno⟩
    (try simp only [List.set_cons_zero, List.set_cons_succ])
    apply W_ife (o := true) (v := good n B t)
    · apply ga_t
      apply gvFr (n := n) (g := fun j => decide (0 < mg B t j)) (o := fun _ => true) (p := fun j => !decide (j = t)) (q := fun _ => true)
      · exact v_nD rfl
      · omega
      · exact ltl rfl
      · intro j hj
        (try simp only [List.set_cons_zero, List.set_cons_succ])
        exact cmp_t (v_nD rfl) (v_nD rfl) (ne_nDs _ _)
      · intro j hj _
        (try simp only [List.set_cons_zero, List.set_cons_succ])
        exact cmp_v (ix_ev (ix_ev (v_t rfl fz_MT) (v_nD rfl) (ix_MT ht)) (v_nD rfl) (ix_rowM hj)) k_lit (gt_iz _ 0)
    · intro h
      apply W_retV rfl
      have : btD n B = nD t := by
        unfold btD
        rw [show (List.range n).find? (good n B) = some t from List.find?_range_eq_some.mpr ⟨h, List.mem_range.mpr ht, fun i hi => by rw [hno i hi]; rfl⟩]
      rw [this]
      rfl
    · intro h
      apply W_nilT
      apply W_nil
      refine ⟨_, _, rfl, fun i hi => ?_⟩
      by_cases z : i = t
      · rw [z]; exact h
      · exact hno i (by omega)
  · rintro _ ⟨s3, s4, rfl, hno⟩
    apply W_ret k_ev
    have : btD n B = .none := by
      unfold btD
      rw [show (List.range n).find? (good n B) = none from List.find?_eq_none.mpr fun i hi => by rw [hno i (List.mem_range.mp hi)]; exact Bool.false_ne_true]
    rw [this]
def smD (n : Nat) (B : List Bl) : D := .tuple ((List.range n).map fun t => nD (B.map fun b => b.idxOf t).sum)
omit hn hB hl in
theorem sum_ev {cal : Cal} {ρ : Ev} {s src t : Nat} {ea : E} {pq : Bool} (hs : ρ[src]? = some (some (pq, BD B))) (hsl : s < ρ.length) (ha : ∀ x, ev cal ea false (ρ.set s x) = some (true, nD t)) (hB : ∀ b ∈ B, t ∈ b) (hl : B.length ≤ 1000) : ev cal (.bi .sum (.cons (.lc (.tidx (.v s) ea) (.n s) (.e (.v src)) .no [s]) .nil)) false ρ = some (true, nD (B.map fun b => b.idxOf t).sum) := by
  have lm : (1000 : Nat) < lim := by decide
  have hget : ∀ x : Option (Bool × D), (ρ.set s x)[s]? = some x := fun x => by simp [hsl]
  refine bi1 (p := true) (x := lN (B.map fun b => b.idxOf t)) ?_ (sum_lN _ _)
  unfold lN
  rw [List.map_map]
  apply lcN (L := B) (enc := bx) (val := nD ∘ fun b => b.idxOf t)
  · exact e_ev (v_t hs (fz_BD B)) rfl
  · omega
  · exact hsl
  · intro b hb
    exact tidx_ev (v_ev (hget _)) (ha _) (hB b hb)
theorem sums_ok (p q : Bool) : callD fns fu (k + 1) 3 [(p, nD n), (q, BD B)] = some (true, smD n B) := by
  have lm : (1000 : Nat) < lim := by decide
  refine calls_W f_3 ⟨rfl, by decide⟩ ?_
  unfold b_3
  simp only [List.map_cons, List.map_nil, List.replicate, List.cons_append, List.nil_append]
  apply W_ret
  · refine bi1 (p := true) (x := .list ((List.range n).map fun t => nD (B.map fun b => b.idxOf t).sum)) ?_ (tup_mp fun _ => rfl)
    apply lcNr (n := n) (val := fun t => nD (B.map fun b => b.idxOf t).sum)
    · exact v_nD rfl
    · omega
    · exact ltl rfl
    · intro t ht
      (try simp only [List.set_cons_zero, List.set_cons_succ])
      exact sum_ev rfl (ltl rfl) (fun _ => v_nD rfl) (mem_b hn hB hl ht) (by omega)
  · rfl
omit hn hB hl in
theorem prs_mem {o : List Nat} (h : o.length < 6) : ∀ e ∈ prs o, e.1 ∈ o ∧ e.2 ∈ o := fun e he => by
  obtain ⟨r, hr, rfl⟩ := List.mem_map.mp he
  obtain ⟨h1, h2⟩ := comb_lt o.length h r hr
  match r, h1 with
  | [x, y], _ =>
    have hx := h2 x (by simp)
    have hy := h2 y (by simp)
    refine ⟨?_, ?_⟩
    · show o.getD x 0 ∈ o
      rw [show o.getD x 0 = o[x] by simp [hx]]
      exact List.getElem_mem hx
    · show o.getD y 0 ∈ o
      rw [show o.getD y 0 = o[y] by simp [hy]]
      exact List.getElem_mem hy
theorem distance_ok {o : List Nat} (ho : o.length < 6) (hm : ∀ x ∈ o, x < n) (p q : Bool) : callD fns fu (k + 1) 4 [(p, BD B), (q, tN o)] = some (true, nD (dist B o)) := by
  have lm : (1000 : Nat) < lim := by decide
  refine calls_W f_4 ⟨rfl, by decide⟩ ?_
  unfold b_4
  simp only [List.map_cons, List.map_nil, List.replicate, List.cons_append, List.nil_append]
  apply W_asg (d := nD (((prs o).take 0).map fun e => ups B e.1 e.2).sum) k_lit
  · exact ltl rfl
  (try simp only [List.set_cons_zero, List.set_cons_succ])
  apply W_forT (L := prs o) (enc := fun e => .tuple [nD e.1, nD e.2]) (fun j ρ => ∃ (s3 s4 s5 : _), ρ = [some (p, BD B), some (q, tN o), some (true, nD (((prs o).take j).map fun e => ups B e.1 e.2).sum), s3, s4, s5]) (fun _ => False)
  · exact cb_ev (v_t rfl (fz_tN o)) k_lit ho
  · exact ⟨_, _, _, rfl⟩
  · rintro j e _ hj ⟨s3, s4, s5, rfl⟩
    have hem := prs_mem ho e (List.mem_of_getElem? hj)
    have es : (((prs o).take (j + 1)).map fun e => ups B e.1 e.2).sum = (((prs o).take j).map fun e => ups B e.1 e.2).sum + ups B e.1 e.2 := by
      rw [List.take_add_one, hj, List.map_append, List.sum_append]
      simp
    rw [es]
    refine ⟨[some (p, BD B), some (q, tN o), some (true, nD (((prs o).take j).map fun e => ups B e.1 e.2).sum), some (true, nD e.1), some (true, nD e.2), s5], rfl, ?_⟩
    apply W_augN rfl (y := ups B e.1 e.2)
    · exact ah_ev rfl (ltl rfl) (fun _ => v_nD rfl) (fun _ => v_nD rfl) (fun b hb => ⟨mem_b hn hB hl (hm _ hem.2) b hb, mem_b hn hB hl (hm _ hem.1) b hb⟩) (by omega)
    (try simp only [List.set_cons_zero, List.set_cons_succ])
    apply W_nil
    exact ⟨_, _, _, rfl⟩
  · rintro _ ⟨s3, s4, s5, rfl⟩
    rw [List.take_length, dist_prs B ho]
    exact W_retV rfl rfl
  · exact fun _ z => z.elim
theorem ldist_ok {o : List Nat} (ho : o.length < 6) (hm : ∀ x ∈ o, x < n) (p q : Bool) : callD fns fu (k + 1) 11 [(p, BD B), (q, tN o)] = some (true, nD (dist B o)) := by
  have lm : (1000 : Nat) < lim := by decide
  have hgd : ∀ {i : Nat}, i < o.length → o.getD i 0 < n := fun {i} hi => by
    rw [show o.getD i 0 = o[i] by simp [hi]]
    exact hm _ (List.getElem_mem hi)
  refine calls_W f_11 ⟨rfl, by decide⟩ ?_
  unfold b_11
  simp only [List.map_cons, List.map_nil, List.replicate, List.cons_append, List.nil_append]
  apply W_asg (d := nD ((List.range 0).map fun i => ((o.drop (i + 1)).map (ups B (o.getD i 0))).sum).sum) k_lit
  · exact ltl rfl
  (try simp only [List.set_cons_zero, List.set_cons_succ])
  apply W_rng (n := o.length) fun j ρ => ∃ (s3 s4 s5 : _), ρ = [some (p, BD B), some (q, tN o), some (true, nD ((List.range j).map fun i => ((o.drop (i + 1)).map (ups B (o.getD i 0))).sum).sum), s3, s4, s5]
  · exact rng_nD (bi1 (v_t rfl (fz_tN o)) (len_tN o _)) (by omega)
  · exact ⟨_, _, _, rfl⟩
  · rintro j _ ⟨s3, s4, s5, rfl⟩
    exact ltl rfl
  · rintro i _ hi ⟨s3, s4, s5, rfl⟩
    (try simp only [List.set_cons_zero, List.set_cons_succ])
    have es : ((List.range (i + 1)).map fun i => ((o.drop (i + 1)).map (ups B (o.getD i 0))).sum).sum = ((List.range i).map fun i => ((o.drop (i + 1)).map (ups B (o.getD i 0))).sum).sum + ((o.drop (i + 1)).map (ups B (o.getD i 0))).sum := by
      rw [List.range_succ, List.map_append, List.sum_append]
      simp
    rw [es]
    generalize ((List.range i).map fun i => ((o.drop (i + 1)).map (ups B (o.getD i 0))).sum).sum = S
    have hL : ∀ c ∈ o.drop (i + 1), c < n := fun c hc => hm c (List.mem_of_mem_drop hc)
    obtain ⟨L, hLe⟩ : ∃ L, L = o.drop (i + 1) := ⟨_, rfl⟩
    rw [← hLe] at hL ⊢
    apply W_for (L := L) (enc := nD) (i := 4) (fun m ρ => ∃ (s4 s5 : _), ρ = [some (p, BD B), some (q, tN o), some (true, nD (S + ((L.take m).map (ups B (o.getD i 0))).sum)), some (true, nD i), s4, s5]) (fun _ => False)
    · rw [hLe]
      exact e_ev (sl_onN (v_t rfl (fz_tN o)) (bin_ev (v_nD rfl) k_lit (add_nD _ _)) (slN_n0 o (i + 1))) rfl
    · exact ⟨_, _, rfl⟩
    · rintro m _ ⟨s4, s5, rfl⟩
      exact ltl rfl
    · rintro m c _ hmc ⟨s4, s5, rfl⟩
      (try simp only [List.set_cons_zero, List.set_cons_succ])
      have hc := hL c (List.mem_of_getElem? hmc)
      have e2 : ((L.take (m + 1)).map (ups B (o.getD i 0))).sum = ((L.take m).map (ups B (o.getD i 0))).sum + ups B (o.getD i 0) c := by
        rw [List.take_add_one, hmc, List.map_append, List.sum_append]
        simp
      rw [e2, ← Nat.add_assoc]
      generalize S + ((L.take m).map (ups B (o.getD i 0))).sum = S2
      apply W_asg (d := nD (S2 + ups B (o.getD i 0) c))
      · refine bin_ev (q := true) (v_nD rfl) ?_ (add_nD _ _)
        exact ah_ev rfl (ltl rfl) (fun _ => v_nD rfl) (fun _ => ix_ev (v_t rfl (fz_tN o)) (v_nD rfl) (ix_tN (by simp [hi]))) (fun b hb => ⟨mem_b hn hB hl hc b hb, mem_b hn hB hl (hgd hi) b hb⟩) (by omega)
      · exact ltl rfl
      (try simp only [List.set_cons_zero, List.set_cons_succ])
      apply W_nil
      exact ⟨_, _, rfl⟩
    · rintro _ ⟨s4, s5, rfl⟩
      rw [List.take_length]
      apply W_nil
      exact ⟨_, _, _, rfl⟩
    · exact fun _ z => z.elim
  · rintro _ ⟨s3, s4, s5, rfl⟩
    rw [dist_rng]
    exact W_retV rfl rfl
theorem nearest_ok (p q : Bool) : ∃ i, Best B (ItP.permI n) i ∧ callD fns fu (k + 2) 5 [(p, nD n), (q, BD B)] = some (true, tN ((ItP.permI n).getD i [])) := by
  have lm : (1000 : Nat) < lim := by decide
  obtain ⟨L, hL⟩ : ∃ L, L = ItP.permI n := ⟨_, rfl⟩
  have hLp : ∀ o ∈ L, o.length < 6 ∧ ∀ x ∈ o, x < n := fun o ho => by
    rw [hL] at ho
    have := perm_lt n hn o ho
    exact ⟨by omega, this.2⟩
  have hne : L ≠ [] := by rw [hL]; exact perm_ne n hn
  rw [← hL]
  suffices h : ∃ d, callD fns fu (k + 2) 5 [(p, nD n), (q, BD B)] = some (true, d) ∧ ∃ i, Best B L i ∧ d = tN (L.getD i []) by
    obtain ⟨d, h1, i, h2, rfl⟩ := h
    exact ⟨i, h2, h1⟩
  refine calls_WE f_5 ⟨rfl, by decide⟩ ?_
  unfold b_5
  simp only [List.map_cons, List.map_nil, List.replicate, List.cons_append, List.nil_append]
  apply W_asg (d := .none) k_ev
  · exact ltl rfl
  (try simp only [List.set_cons_zero, List.set_cons_succ])
  apply W_for (L := L) (enc := tN) (i := 3) (fun j ρ => ∃ (d s3 s4 : _), ρ = [some (p, nD n), some (q, BD B), some (true, d), s3, s4] ∧ ((j = 0 ∧ d = .none) ∨ ∃ i, i < j ∧ d = .tuple [nD (dist B (L.getD i [])), tN (L.getD i [])] ∧ (∀ k, k < j → dist B (L.getD i []) ≤ dist B (L.getD k [])) ∧ ∀ k, k < i → dist B (L.getD i []) < dist B (L.getD k []))) (fun _ => False)
  · rw [hL]
    exact pm_ev (v_nD rfl) hn
  · exact ⟨_, _, _, rfl, .inl ⟨rfl, rfl⟩⟩
  · rintro j _ ⟨d, s3, s4, rfl, _⟩
    exact ltl rfl
  · rintro j o _ hj ⟨d, s3, s4, rfl, hd⟩
    rw [fz_tN]
    (try simp only [List.set_cons_zero, List.set_cons_succ])
    have hom := List.mem_of_getElem? hj
    have hoe : L.getD j [] = o := by
      rw [List.getD_eq_getElem?_getD, hj]; rfl
    apply W_asg (d := nD (dist B o))
    · exact cal2 (v_t rfl (fz_BD B)) (v_t rfl (fz_tN o)) (distance_ok fu k hn hB hl (hLp o hom).1 (hLp o hom).2 _ _)
    · exact ltl rfl
    (try simp only [List.set_cons_zero, List.set_cons_succ])
    have hnew : ev (callD fns fu (k + 1)) (.tup (.cons (.v 4) (.cons (.bi .tuple (.cons (.v 3) .nil)) .nil))) false [some (p, nD n), some (q, BD B), some (true, d), some (true, tN o), some (true, nD (dist B o))] = some (true, .tuple [nD (dist B o), tN o]) := tup2 (v_nD rfl) (bi1 (v_t rfl (fz_tN o)) (tup_tN o _))
    rcases hd with ⟨rfl, rfl⟩ | ⟨i, hi, rfl, h1, h2⟩
    · apply W_ife (o := true) (v := true)
      · exact ro_t (p := true) (cmp_t (v_t rfl rfl) k_ev rfl)
      · intro _
        apply W_asg hnew
        · exact ltl rfl
        (try simp only [List.set_cons_zero, List.set_cons_succ])
        apply W_nilT
        apply W_nil
        refine ⟨_, _, _, rfl, .inr ⟨0, by omega, by rw [hoe], fun k hk => ?_, fun k hk => absurd hk (Nat.not_lt_zero _)⟩⟩
        rw [show k = 0 by omega]
        exact Nat.le_refl _
      · exact fun z => nomatch z
    · have hfz : fz (.tuple [nD (dist B (L.getD i [])), tN (L.getD i [])]) = true := fz_pr _ _
      apply W_ife (o := true) (v := false || decide (dist B o < dist B (L.getD i [])))
      · apply ro_b (p := true)
        · exact cmp_t (v_t rfl hfz) k_ev rfl
        · intro _
          exact cmp_t (v_nD rfl) (ix_ev (v_t rfl hfz) k_lit (ix_tup (i := 0) (x := nD (dist B (L.getD i []))) rfl)) (lt_nDs _ _)
      · intro hc
        have hc : dist B o < dist B (L.getD i []) := by simpa using hc
        apply W_asg hnew
        · exact ltl rfl
        (try simp only [List.set_cons_zero, List.set_cons_succ])
        apply W_nilT
        apply W_nil
        refine ⟨_, _, _, rfl, .inr ⟨j, by omega, by rw [hoe], fun k hk => ?_, fun k hk => ?_⟩⟩
        · by_cases z : k = j
          · rw [z]; exact Nat.le_refl _
          · have := h1 k (by omega)
            rw [hoe]; omega
        · have := h1 k hk
          rw [hoe]; omega
      · intro hc
        have hc : ¬ dist B o < dist B (L.getD i []) := by simpa using hc
        apply W_nilT
        apply W_nil
        refine ⟨_, _, _, rfl, .inr ⟨i, by omega, rfl, fun k hk => ?_, h2⟩⟩
        by_cases z : k = j
        · rw [z, hoe]; omega
        · exact h1 k (by omega)
  · rintro _ ⟨d, s3, s4, rfl, hd⟩
    rcases hd with ⟨h0, _⟩ | ⟨i, hi, rfl, h1, h2⟩
    · exact absurd (List.eq_nil_of_length_eq_zero h0) hne
    · have hfz : fz (.tuple [nD (dist B (L.getD i [])), tN (L.getD i [])]) = true := fz_pr _ _
      apply W_ret (o := true) (d := tN (L.getD i []))
      · refine (ix_ev (v_t rfl hfz) k_lit (ix_tup (i := 1) (x := tN (L.getD i [])) rfl)).trans ?_
        rw [fz_tN]
      · exact ⟨_, rfl, i, ⟨hi, h1, h2⟩, rfl⟩
  · exact fun _ z => z.elim
end
end k19

set_option Elab.async false
set_option linter.all false
set_option maxRecDepth 100000
/-! K19v: the law's ballots. -/
namespace k19
open PySem PySem.Spec PyProof.Rows L2 RZ Den
theorem W_popA {cal : Cal} {fu : Nat} {ρ : Ev} {r : Ss} {P : Fl → Ev → Prop} {t i : Nat} {k : E} {ts : List D} {l : List Nat} {j : Nat} {o : Bool} (ho : ownD ρ t = some (.list ts)) (hi : ownD ρ i = some (.list (l.map nD))) (hk : ev cal k false ρ = some (o, nD j)) (hj : j < l.length) (hl : l.length ≤ lim) (ht : ts.length < lim) (hne : t ≠ i) (q : W P (exs cal fu r ((ρ.set i (some (true, .list ((l.eraseIdx j).map nD)))).set t (some (true, .list (ts ++ [nD (l.getD j 0)])))))) : W P (exs cal fu (.cons (.popA t i k) r) ρ) := by
  refine W_step ?_ q
  have hx : ixN (l.map nD).length (j : Int) = some j := ixN_nat (by simpa using hj)
  have hz : (l.map nD)[j]? = some (nD (l.getD j 0)) := by simp [hj]
  have he : (l.map nD).eraseIdx j = (l.eraseIdx j).map nD := by rw [List.eraseIdx_eq_take_drop_succ, List.eraseIdx_eq_take_drop_succ, List.map_append, List.map_take, List.map_drop]
  have hc : ((l.map nD).length ≤ lim ∧ ts.length < lim) ∧ t ≠ i := ⟨⟨by rw [List.length_map]; exact hl, ht⟩, hne⟩
  unfold nD at hk
  simp only [exS, ho, hi, hk, hx, hz, he, if_pos hc, fz_nD, if_true]
theorem tupX_ev {cal : Cal} {ρ : Ev} {e : E} {b : Bl} {p : Bool} (h : ev cal e false ρ = some (p, .list (b.map nD))) : ev cal (.tupX e) false ρ = some (true, bx b) := by
  have e1 : intsD (b.map nD) = some (b.map fun i : Nat => (i : Int)) := by
    have := intsD_map (b.map fun i : Nat => (i : Int))
    rw [List.map_map] at this
    exact this
  simp only [ev, fin, Bool.false_eq_true, if_false, h, e1, Option.map_some]
  rfl
theorem erase_perm : ∀ {l : List Nat} {j : Nat}, j < l.length → (l.getD j 0 :: l.eraseIdx j).Perm l
  | a :: l, 0, _ => by simp
  | a :: l, j + 1, h => by
    have ih := erase_perm (l := l) (j := j) (by simpa using h)
    simp only [List.getD_cons_succ, List.eraseIdx_cons_succ]
    exact (List.Perm.swap ..).trans (ih.cons a)
theorem mul_list {cal : Cal} {ρ : Ev} {a : E} {B : List Bl} {p : Bool} (h : ev cal a false ρ = some (p, .list (B.map bx))) (hl : B.length ≤ 20) : ev cal (.bin .mul a (.k (.int 3))) false ρ = some (true, .list ((B ++ (B ++ B)).map bx)) := by
  refine bin_ev h k_ev ?_
  have hf : fzs (B.map bx) = true := fzs_map _ _ fz_bx
  simp only [binD]
  rw [if_pos ⟨hf, by decide, by decide, by rw [List.length_map]; omega⟩]
  refine congrArg (fun l => some (true, PyData.list l)) ?_
  show (List.replicate 3 (B.map bx)).flatten = _
  simp [List.replicate]
theorem sl_B (B : List Bl) (m : Nat) : slD (.list (B.map bx)) none (some (m : Int)) = some (true, .list ((B.take m).map bx)) := by
  simp only [slD, cut_0n, ← List.map_take]
  rw [fzs_map _ _ fz_bx]
theorem ballots_ok (ns : List Int) (dr : Nat → Nat) {n cnt : Nat} (hn1 : 1 ≤ n) (hn : n < 6) (hc : cnt ≤ 20) : ∃ d, callD fns 1000 29 12 [(false, scrD ns), (false, DM dr 12), (true, nD n), (true, nD cnt)] = some (true, d) ∧ ∃ B, d = BD B ∧ (∀ b ∈ B, PermN n b) ∧ B.length ≤ 20 := by
  have lm : (1000 : Nat) < lim := by decide
  have hcell : ∀ i p q, callD fns 1000 28 6 [(p, scrD ns), (q, nD i)] = some (true, .int (cellF ns i)) := fun i p q => cell_ok f_6 ns i p q 1000 27
  refine calls_WE f_12 ⟨rfl, by decide⟩ ?_
  unfold b_12
  simp only [List.map_cons, List.map_nil, List.replicate, List.cons_append, List.nil_append]
  apply W_asg (d := .list (([] : List Bl).map bx)) lst0
  · exact ltl rfl
  (try simp only [List.set_cons_zero, List.set_cons_succ])
  apply W_rng (n := cnt) fun j ρ => ∃ (B : List Bl) (s5 s6 s7 s8 s9 s10 s11 : _), ρ = [some (false, scrD ns), some (false, DM dr 12), some (true, nD n), some (true, nD cnt), some (true, .list (B.map bx)), s5, s6, s7, s8, s9, s10, s11] ∧ B.length = j ∧ ∀ b ∈ B, PermN n b
  · exact rng_nD (v_nD rfl) (by omega)
  · exact ⟨[], _, _, _, _, _, _, _, rfl, rfl, fun b hb => by cases hb⟩
  · rintro j _ ⟨B, s5, s6, s7, s8, s9, s10, s11, rfl, _⟩
    exact ltl rfl
  · rintro j _ hj ⟨B, s5, s6, s7, s8, s9, s10, s11, rfl, hBl, hB⟩
    (try simp only [List.set_cons_zero, List.set_cons_succ])
    obtain ⟨dx, _, hdx⟩ := drawsM f_7 (cellF ns (1 + j % 4) + ((7919 * (j / 4) : Nat) : Int)) (n + 1) (by omega) true true 1000 27
    apply W_asg (d := DM dx (n + 1))
    · exact cal2 (bin_ev (q := true) (y := nD (7919 * (j / 4))) (cal2 (v_ev rfl) (bin_ev k_lit (bin_ev (v_nD rfl) k_lit (mod_nD (by decide))) (add_nD _ _)) (hcell _ _ _)) (bin_ev k_lit (bin_ev (v_nD rfl) k_lit (div_nD (by decide))) (mul_nD (by decide))) (add_iz _ _)) (bin_ev (v_nD rfl) k_lit (add_nD _ _)) hdx
    · exact ltl rfl
    (try simp only [List.set_cons_zero, List.set_cons_succ])
    apply W_asg (d := .list ((List.range n).map nD)) (bi1 (v_nD rfl) (listr (by omega) _))
    · exact ltl rfl
    (try simp only [List.set_cons_zero, List.set_cons_succ])
    apply W_asg (d := .bool (decide (dr 3 % 3 = 1)))
    · exact cmp_v (bin_ev (q := true) (bi1 (ix_ev (v_ev rfl) k_lit (ix_DM _ (by decide))) (int_nD _ _)) k_lit (mod_nD (by decide))) k_lit (eq_nDs _ _)
    · exact ltl rfl
    (try simp only [List.set_cons_zero, List.set_cons_succ])
    generalize decide (dr 3 % 3 = 1) = calm
    apply W_asg (d := .list (([] : List Nat).map nD)) lst0
    · exact ltl rfl
    (try simp only [List.set_cons_zero, List.set_cons_succ])
    apply W_rng (n := n) fun i ρ => ∃ (b l : List Nat) (s10 s11 : _), ρ = [some (false, scrD ns), some (false, DM dr 12), some (true, nD n), some (true, nD cnt), some (true, .list (B.map bx)), some (true, nD j), some (true, DM dx (n + 1)), some (true, .list (l.map nD)), some (true, .bool calm), some (true, .list (b.map nD)), s10, s11] ∧ b.length = i ∧ (b ++ l).Perm (List.range n)
    · exact rng_nD (v_nD rfl) (by omega)
    · exact ⟨[], List.range n, _, _, rfl, rfl, .refl _⟩
    · rintro i _ ⟨b, l, s10, s11, rfl, _⟩
      exact ltl rfl
    · rintro i _ hi ⟨b, l, s10, s11, rfl, hbl, hp⟩
      (try simp only [List.set_cons_zero, List.set_cons_succ])
      have hlen : l.length = n - i := by
        have := hp.length_eq
        rw [List.length_append, List.length_range] at this
        omega
      have hln : ∀ p, biD .len [(p, .list (l.map nD))] = some (true, nD l.length) := fun p => by simp only [biD, List.length_map, nD]
      have hpl : dx i % l.length < l.length := Nat.mod_lt _ (by omega)
      apply W_asg (d := nD (dx i % l.length))
      · exact bin_ev (q := true) (bi1 (ix_ev (v_ev rfl) (v_nD rfl) (ix_DM _ (by omega))) (int_nD _ _)) (bi1 (v_l rfl) (hln _)) (mod_nD (by omega))
      · exact ltl rfl
      (try simp only [List.set_cons_zero, List.set_cons_succ])
      generalize dx i % l.length = pl at hpl
      have hk : ∃ m, m < l.length ∧ ev (callD fns 1000 28) (.ite (.an (.v 8) (.cmp .gt (.bi .len (.cons (.v 7) .nil)) (.k (.int 1)))) (.bin .mod (.v 11) (.k (.int 2))) (.v 11)) false [some (false, scrD ns), some (false, DM dr 12), some (true, nD n), some (true, nD cnt), some (true, .list (B.map bx)), some (true, nD j), some (true, DM dx (n + 1)), some (true, .list (l.map nD)), some (true, .bool calm), some (true, .list (b.map nD)), some (true, nD i), some (true, nD pl)] = some (true, nD m) := by
        have hcd : ev (callD fns 1000 28) (.an (.v 8) (.cmp .gt (.bi .len (.cons (.v 7) .nil)) (.k (.int 1)))) true [some (false, scrD ns), some (false, DM dr 12), some (true, nD n), some (true, nD cnt), some (true, .list (B.map bx)), some (true, nD j), some (true, DM dx (n + 1)), some (true, .list (l.map nD)), some (true, .bool calm), some (true, .list (b.map nD)), some (true, nD i), some (true, nD pl)] = some (true, .bool (calm && decide (1 < l.length))) := an_b (p := true) (v_b rfl) fun _ => cmp_t (bi1 (v_l rfl) (hln _)) k_lit (gt_nDs _ _)
        by_cases z : (calm && decide (1 < l.length)) = true
        · rw [z] at hcd
          rw [Bool.and_eq_true] at z
          have z2 := of_decide_eq_true z.2
          exact ⟨pl % 2, by have := Nat.mod_lt pl (show 0 < 2 by decide); omega, ite_t hcd (bin_ev (v_nD rfl) k_lit (mod_nD (by decide)))⟩
        · rw [show (calm && decide (1 < l.length)) = false by simpa using z] at hcd
          exact ⟨pl, hpl, ite_f hcd (v_nD rfl)⟩
      obtain ⟨m, hm, hk⟩ := hk
      apply W_popA (ts := b.map nD) (l := l) (j := m) rfl rfl hk hm (by omega) (by rw [List.length_map]; omega) (by decide)
      (try simp only [List.set_cons_zero, List.set_cons_succ])
      apply W_nil
      refine ⟨b ++ [l.getD m 0], l.eraseIdx m, some (true, nD i), some (true, nD pl), ?_, ?_, ?_⟩
      · rw [List.map_append]; rfl
      · rw [List.length_append, hbl]; rfl
      · rw [List.append_assoc]
        exact ((erase_perm hm).append_left b).trans hp
    · rintro _ ⟨b, l, s10, s11, rfl, hbl, hp⟩
      have hle : l = [] := by
        have := hp.length_eq
        rw [List.length_append, List.length_range] at this
        exact List.eq_nil_of_length_eq_zero (by omega)
      rw [hle, List.append_nil] at hp
      apply W_app (xs := B.map bx) (d := bx b) rfl (tupX_ev (v_l rfl))
      · rw [List.length_map]; omega
      (try simp only [List.set_cons_zero, List.set_cons_succ])
      apply W_nil
      refine ⟨B ++ [b], some (true, nD j), some (true, DM dx (n + 1)), some (true, .list (l.map nD)), some (true, .bool calm), some (true, .list (b.map nD)), s10, s11, ?_, ?_, fun c hc => ?_⟩
      · rw [List.map_append]; rfl
      · rw [List.length_append, hBl]; rfl
      · rcases List.mem_append.mp hc with z | z
        · exact hB c z
        · rw [List.mem_singleton.mp z]; exact hp
  · rintro _ ⟨B, s5, s6, s7, s8, s9, s10, s11, rfl, hBl, hB⟩
    apply W_ife (o := true) (v := decide (dr 4 % 3 = 1))
    · exact cmp_t (bin_ev (q := true) (bi1 (ix_ev (v_ev rfl) k_lit (ix_DM _ (by decide))) (int_nD _ _)) k_lit (mod_nD (by decide))) k_lit (eq_nDs _ _)
    · intro _
      apply W_asg (d := .list (((B ++ (B ++ B)).take 20).map bx))
      · exact sl_noN (mul_list (v_l rfl) (by omega)) k_lit (sl_B _ 20)
      · exact ltl rfl
      (try simp only [List.set_cons_zero, List.set_cons_succ])
      apply W_nilT
      apply W_ret (bi1 (v_l rfl) (tup_mp fz_bx))
      refine ⟨_, rfl, _, rfl, fun b hb => ?_, by rw [List.length_take]; omega⟩
      have := List.mem_of_mem_take hb
      rcases List.mem_append.mp this with z | z
      · exact hB b z
      · rcases List.mem_append.mp z with z | z
        · exact hB b z
        · exact hB b z
    · intro _
      apply W_nilT
      apply W_ret (bi1 (v_l rfl) (tup_mp fz_bx))
      exact ⟨_, rfl, _, rfl, hB, by omega⟩
end k19

set_option Elab.async false
set_option linter.all false
set_option maxRecDepth 100000
/-! K19m: the law. -/
namespace k19
open PySem PySem.Spec PyProof.Rows L2 RZ Den
theorem rng_m1 {cal : Cal} {ρ : Ev} {a : E} {p : Bool} {m : Nat} (h : ev cal a false ρ = some (p, nD m)) (hm : m ≤ 1000) : evi cal (.rng1 (.bin .sub a (.k (.int 1)))) ρ = some (true, (List.range (m - 1)).map nD) := by
  have h1 : ev cal (.bin .sub a (.k (.int 1))) false ρ = some (true, .int ((m : Int) - 1)) := bin_ev h k_ev rfl
  have h2 := rng_ok h1 (by omega)
  rw [h2]
  refine congrArg (fun l => some (true, l)) ?_
  unfold rngD
  rw [show ((m : Int) - 1 - 0).toNat = m - 1 by omega]
  refine List.map_congr_left fun i _ => ?_
  show PyData.int (0 + (i : Int)) = .int (i : Int)
  rw [Int.zero_add]
theorem pln_MT {n : Nat} {B : List Bl} (h : n ≤ 1000) : Pln 2 (MT n B) := by
  have lm : (1000 : Nat) < lim := by decide
  refine .tup (by rw [List.length_map, List.length_range]; omega) fun x hx => ?_
  obtain ⟨i, _, rfl⟩ := List.mem_map.mp hx
  refine .tup (by rw [List.length_map, List.length_range]; omega) fun x hx => ?_
  obtain ⟨j, _, rfl⟩ := List.mem_map.mp hx
  exact .int _
theorem pln_sm {n : Nat} {B : List Bl} (h : n ≤ 1000) : Pln 2 (smD n B) := by
  have lm : (1000 : Nat) < lim := by decide
  refine .tup (by rw [List.length_map, List.length_range]; omega) fun x hx => ?_
  obtain ⟨i, _, rfl⟩ := List.mem_map.mp hx
  exact .int _
theorem pln_bt {n : Nat} {B : List Bl} : Pln 2 (btD n B) := by
  unfold btD
  split
  · exact .int _
  · exact .none
theorem best_uniq {B : List Bl} {L : List (List Nat)} {i j : Nat} (h : Best B L i) (h' : Best B L j) : i = j := by
  obtain ⟨h1, h2, h3⟩ := h
  obtain ⟨g1, g2, g3⟩ := h'
  rcases Nat.lt_trichotomy i j with z | z | z
  · have := g3 i z
    have := h2 j g1
    omega
  · exact z
  · have := h3 j z
    have := g2 i h1
    omega
theorem best_of {B : List Bl} {L : List (List Nat)} {m : Nat} (hm : m ∈ L.map (dist B)) (hmin : ∀ s ∈ L.map (dist B), m ≤ s) : Best B L ((L.map (dist B)).idxOf m) := by
  have hl := List.idxOf_lt_length_iff.mpr hm
  have hg := List.getElem_idxOf hl
  obtain ⟨q, hq⟩ : ∃ q, q = (L.map (dist B)).idxOf m := ⟨_, rfl⟩
  have hlq : q < L.length := by rw [hq]; rwa [List.length_map] at hl
  have hgq : dist B (L.getD q []) = m := by
    rw [show L.getD q [] = L[q] by simp [hlq]]
    have : (L.map (dist B))[q]'(by rw [List.length_map]; exact hlq) = m := by
      subst hq
      exact hg
    rwa [List.getElem_map] at this
  rw [← hq]
  refine ⟨hlq, fun k hk => ?_, fun k hk => ?_⟩
  · rw [hgq, show L.getD k [] = L[k] by simp [hk]]
    exact hmin _ (List.mem_map.mpr ⟨_, List.getElem_mem hk, rfl⟩)
  · have hkl : k < L.length := by omega
    have h1 := hmin _ (List.mem_map.mpr ⟨_, List.getElem_mem hkl, rfl⟩)
    have h2 : dist B L[k] ≠ m := fun z => by
      have h8 := List.not_of_lt_findIdx (p := fun x => x == m) (xs := L.map (dist B)) (i := k) (by rw [hq] at hk; exact hk)
      rw [List.getElem_map, z] at h8
      simp at h8
    rw [hgq, show L.getD k [] = L[k] by simp [hkl]]
    omega
def hdD : List Nat → D
  | a :: _ => nD a
  | [] => .none
theorem law_ok (ns : List Int) : callD fns 1000 30 13 [(false, scrD ns)] = some (true, .bool true) := by
  have lm : (2000 : Nat) < lim := by decide
  have hcell : ∀ i p q, callD fns 1000 29 6 [(p, scrD ns), (q, nD i)] = some (true, .int (cellF ns i)) := fun i p q => cell_ok f_6 ns i p q 1000 28
  obtain ⟨dr, _, hdr⟩ := drawsM f_7 (cellF ns 0) 12 (by decide) true true 1000 28
  have his : ∀ {d : D}, Pln 2 d → ∀ p q, callD fns 1000 29 9 [(p, d), (q, d)] = some (true, .bool true) := fun h p q => is_self f_8 f_9 1000 2 25 h p q
  refine calls_W f_13 ⟨rfl, by decide⟩ ?_
  unfold b_13
  simp only [List.map_cons, List.map_nil, List.replicate, List.cons_append, List.nil_append]
  apply W_asg (d := DM dr 12)
  · exact cal2 (cal2 (v_ev rfl) k_lit (hcell _ _ _)) k_lit hdr
  · exact ltl rfl
  (try simp only [List.set_cons_zero, List.set_cons_succ])
  obtain ⟨n, hn1, hn2, hnp⟩ := pick (l := [4, 3, 5, 2, 1]) (i := dr 0 % 5) (lo := 1) (hi := 5) (Nat.mod_lt _ (by decide)) (by decide)
  obtain ⟨cnt, hc1, hc2, hcp⟩ := pick (l := [3, 5, 2, 8, 20, 1]) (i := dr 1 % 6) (lo := 1) (hi := 20) (Nat.mod_lt _ (by decide)) (by decide)
  have hn : n < 6 := by omega
  apply W_asg (d := nD n)
  · exact pickN (i := dr 0 % 5) (p := true) (evs_c k_lit (evs_c k_lit (evs_c k_lit (evs_c k_lit (evs_c k_lit evs_n))))) (by exact (by decide : 5 ≤ 16777216)) (bin_ev (q := true) (bi1 (ix_ev (v_ev rfl) k_lit (ix_DM _ (by decide))) (int_nD _ _)) k_lit (mod_nD (by decide))) hnp
  · exact ltl rfl
  (try simp only [List.set_cons_zero, List.set_cons_succ])
  obtain ⟨d, hd, B, rfl, hB, hBl⟩ := ballots_ok ns dr hn1 hn hc2
  apply W_asg (d := BD B)
  · refine cal4 (v_ev rfl) (v_ev rfl) (v_nD rfl) ?_ hd
    exact pickN (i := dr 1 % 6) (p := true) (evs_c k_lit (evs_c k_lit (evs_c k_lit (evs_c k_lit (evs_c k_lit (evs_c k_lit evs_n)))))) (by exact (by decide : 6 ≤ 16777216)) (bin_ev (q := true) (bi1 (ix_ev (v_ev rfl) k_lit (ix_DM _ (by decide))) (int_nD _ _)) k_lit (mod_nD (by decide))) hcp
  · exact ltl rfl
  (try simp only [List.set_cons_zero, List.set_cons_succ])
  have hmem : ∀ {i : Nat}, i < n → ∀ b ∈ B, i ∈ b := fun {i} hi => mem_b hn hB hBl hi
  apply W_asg (d := .list ((List.range 0).map (rowM n B))) lst0
  · exact ltl rfl
  (try simp only [List.set_cons_zero, List.set_cons_succ])
  apply W_rng (n := n) fun i ρ => ∃ (s5 s6 s7 s8 : _), ρ = [some (false, scrD ns), some (true, DM dr 12), some (true, nD n), some (true, BD B), some (true, .list ((List.range i).map (rowM n B))), s5, s6, s7, s8, none, none, none, none, none, none, none, none]
  · exact rng_nD (v_nD rfl) (by omega)
  · exact ⟨_, _, _, _, rfl⟩
  · rintro i _ ⟨s5, s6, s7, s8, rfl⟩
    exact ltl rfl
  · rintro i _ hi ⟨s5, s6, s7, s8, rfl⟩
    (try simp only [List.set_cons_zero, List.set_cons_succ])
    apply W_asg (d := .list ((List.range 0).map fun j => .int (mg B i j))) lst0
    · exact ltl rfl
    (try simp only [List.set_cons_zero, List.set_cons_succ])
    obtain ⟨RS, hRS⟩ : ∃ RS, RS = (List.range i).map (rowM n B) := ⟨_, rfl⟩
    have hRSl : RS.length = i := by rw [hRS, List.length_map, List.length_range]
    have hnew : ((List.range (i + 1)).map (rowM n B)) = RS ++ [rowM n B i] := by rw [List.range_succ, List.map_append, hRS]; rfl
    rw [← hRS, hnew]
    apply W_rng (n := n) fun j ρ => ∃ (s7 s8 : _), ρ = [some (false, scrD ns), some (true, DM dr 12), some (true, nD n), some (true, BD B), some (true, .list RS), some (true, nD i), some (true, .list ((List.range j).map fun j => .int (mg B i j))), s7, s8, none, none, none, none, none, none, none, none]
    · exact rng_nD (v_nD rfl) (by omega)
    · exact ⟨_, _, rfl⟩
    · rintro j _ ⟨s7, s8, rfl⟩
      exact ltl rfl
    · rintro j _ hj ⟨s7, s8, rfl⟩
      (try simp only [List.set_cons_zero, List.set_cons_succ])
      apply W_asg (d := nD (ahead B i j))
      · exact ah_ev rfl (ltl rfl) (fun _ => v_nD rfl) (fun _ => v_nD rfl) (fun b hb => ⟨hmem hi b hb, hmem hj b hb⟩) (by omega)
      · exact ltl rfl
      (try simp only [List.set_cons_zero, List.set_cons_succ])
      apply W_app (xs := (List.range j).map fun j => .int (mg B i j)) (d := .int (mg B i j)) rfl
      · have hc : ∀ ρ : Ev, ρ[5]? = some (some (true, nD i)) → ρ[7]? = some (some (true, nD j)) → ev (callD fns 1000 29) (.cmp .eq (.v 5) (.v 7)) true ρ = some (true, .bool (decide (i = j))) := fun ρ h2 h3 => cmp_t (v_nD h2) (v_nD h3) (eq_nDs _ _)
        unfold mg
        by_cases z : i = j
        · rw [if_pos z]
          exact ite_t ((hc _ rfl rfl).trans (by rw [decide_eq_true z])) k_ev
        · rw [if_neg z]
          refine ite_f ((hc _ rfl rfl).trans (by rw [decide_eq_false z])) (bin_ev (v_nD rfl) (bin_ev (bi1 (v_t rfl (fz_BD B)) (len_BD B _)) (v_nD rfl) (sub_ni _ _)) ((sub_zi _ _).trans ?_))
          refine congrArg (fun z => some (true, PyData.int z)) ?_
          omega
      · rw [List.length_map, List.length_range]; omega
      (try simp only [List.set_cons_zero, List.set_cons_succ])
      apply W_nil
      refine ⟨some (true, nD j), some (true, nD (ahead B i j)), ?_⟩
      rw [List.range_succ, List.map_append]
      rfl
    · rintro _ ⟨s7, s8, rfl⟩
      apply W_app (xs := RS) (d := rowM n B i) rfl
      · exact bi1 (v_l rfl) (tup_mp fun _ => rfl)
      · omega
      (try simp only [List.set_cons_zero, List.set_cons_succ])
      apply W_nil
      exact ⟨_, _, _, _, rfl⟩
  rintro _ ⟨s5, s6, s7, s8, rfl⟩
  apply W_ife (o := true) (v := false)
  · apply nt_t (v := true)
    exact cal_t (cal2 (cal2 (v_nD rfl) (v_t rfl (fz_BD B)) (margins_ok 1000 27 hn hB hBl _ _)) (bi1 (v_l rfl) (tup_mp fun i => fz_rowM (n := n) (B := B) i)) (his (pln_MT (by omega)) _ _))
  · exact fun z => nomatch z
  intro _
  apply W_nilT
  have hix : ∀ {cal : Cal} {ρ : Ev} {a b : E} {i j : Nat}, ρ[4]? = some (some (true, .list ((List.range n).map (rowM n B)))) → ev cal a false ρ = some (true, nD i) → ev cal b false ρ = some (true, nD j) → i < n → j < n → ev cal (.ix (.ix (.v 4) a) b) false ρ = some (true, .int (mg B i j)) := fun {cal ρ a b i j} h4 ha hb hi hj => by
    have e1 : ixD (.list ((List.range n).map (rowM n B))) (nD i) = some (true, rowM n B i) := (ix_rows (f := rowM n B) hi).trans (by rw [fz_rowM])
    exact ix_ev (ix_ev (v_l h4) ha e1) hb (ix_rowM hj)
  apply W_asg (d := .list (((List.range n).filter (good n B)).map nD))
  · apply lcFr (n := n) (val := nD) (p := good n B) (o := fun _ => true)
    · exact v_nD rfl
    · omega
    · exact ltl rfl
    · intro i hi
      (try simp only [List.set_cons_zero, List.set_cons_succ])
      apply bi_t (p := true)
      refine bi1 (p := true) ?_ (all_bs (fun j : Nat => decide (0 < mg B i j)) ((List.range n).filter fun j => !decide (j = i)) _)
      apply lcFr (n := n) (val := fun j => .bool (decide (0 < mg B i j))) (p := fun j => !decide (j = i)) (o := fun _ => true)
      · exact v_nD rfl
      · omega
      · exact ltl rfl
      · intro j hj
        (try simp only [List.set_cons_zero, List.set_cons_succ])
        exact cmp_t (v_nD rfl) (v_nD rfl) (ne_nDs _ _)
      · intro j hj _
        (try simp only [List.set_cons_zero, List.set_cons_succ])
        exact cmp_v (hix rfl (v_nD rfl) (v_nD rfl) hi hj) k_lit (gt_iz _ 0)
    · intro i hi _
      (try simp only [List.set_cons_zero, List.set_cons_succ])
      exact v_nD rfl
  · exact ltl rfl
  (try simp only [List.set_cons_zero, List.set_cons_succ])
  obtain ⟨G, hG⟩ : ∃ G, G = (List.range n).filter (good n B) := ⟨_, rfl⟩
  have hbt : btD n B = hdD G := by
    unfold btD
    rw [← List.head?_filter, ← hG]
    cases G <;> rfl
  have hGm : ∀ g ∈ G, g < n ∧ good n B g = true := fun g hg => by
    rw [hG] at hg
    have := List.mem_filter.mp hg
    exact ⟨List.mem_range.mp this.1, this.2⟩
  rw [← hG]
  have hln : ∀ p, biD .len [(p, .list (G.map nD))] = some (true, nD G.length) := fun p => by simp only [biD, List.length_map, nD]
  have hcG : ∀ ρ : Ev, ρ[9]? = some (some (true, .list (G.map nD))) → ev (callD fns 1000 29) (.cmp .gt (.bi .len (.cons (.v 9) .nil)) (.k (.int 0))) true ρ = some (true, .bool (decide (0 < G.length))) := fun ρ h => cmp_t (bi1 (v_l h) (hln _)) k_lit (gt_nDs _ _)
  apply W_ife (o := true) (v := false)
  · apply nt_t (v := true)
    refine cal_t (cal2 (q := true) (y := btD n B) (cal2 (v_nD rfl) (v_t rfl (fz_BD B)) (beater_ok 1000 26 hn hB hBl _ _)) ?_ (his pln_bt _ _))
    rw [hbt]
    cases G with
    | nil => exact ite_f (hcG _ rfl) k_ev
    | cons a r => exact ite_t (hcG _ rfl) (ix_ev (v_l rfl) k_lit (ix_list (i := 0) (x := nD a) rfl))
  · exact fun z => nomatch z
  intro _
  apply W_nilT
  apply W_ife (o := true) (v := false)
  · apply nt_t (v := true)
    refine cal_t (cal2 (q := true) (y := smD n B) (cal2 (v_nD rfl) (v_t rfl (fz_BD B)) (sums_ok 1000 28 hn hB hBl _ _)) ?_ (his (pln_sm (by omega)) _ _))
    refine bi1 (p := true) (x := .list ((List.range n).map fun t => nD (B.map fun b => b.idxOf t).sum)) ?_ (tup_mp fun _ => rfl)
    apply lcNr (n := n) (val := fun t => nD (B.map fun b => b.idxOf t).sum)
    · exact v_nD rfl
    · omega
    · exact ltl rfl
    · intro t ht
      (try simp only [List.set_cons_zero, List.set_cons_succ])
      exact sum_ev rfl (ltl rfl) (fun _ => v_nD rfl) (hmem ht) (by omega)
  · exact fun z => nomatch z
  intro _
  apply W_nilT
  obtain ⟨L, hL⟩ : ∃ L, L = ItP.permI n := ⟨_, rfl⟩
  have hLp : ∀ o ∈ L, o.length = n ∧ ∀ x ∈ o, x < n := fun o ho => by
    rw [hL] at ho
    exact perm_lt n hn o ho
  have hLn : L ≠ [] := by rw [hL]; exact perm_ne n hn
  have hLl : L.length ≤ 120 := by
    have := (ord_tab n hn).2 n (by omega)
    rw [(ord_tab n hn).1, ← hL] at this
    exact this.1
  obtain ⟨bo, hor⟩ := ord_ok (f := 10) f_10 1000 28 hn true
  rw [← hL] at hor
  have hav : ev (callD fns 1000 29) (.cal 10 (.cons (.bi .tupRng1 (.cons (.v 2) .nil)) .nil)) false [some (false, scrD ns), some (true, DM dr 12), some (true, nD n), some (true, BD B), some (true, .list ((List.range n).map (rowM n B))), s5, s6, s7, s8, some (true, .list (G.map nD)), none, none, none, none, none, none, none] = some (bo, .list (L.map tN)) := cal1 (bi1 (v_nD rfl) (tupr (by omega) _)) hor
  suffices hrest : ∀ (b3 b4 b9 b1 b10 : Bool) (s5 s6 s7 s8 : Option (Bool × D)), W (fun f _ => f = Fl.ret true (.bool true)) (exs (callD fns 1000 29) 1000 (tl 10 b_13) [some (false, scrD ns), some (b1, DM dr 12), some (true, nD n), some (b3, BD B), some (b4, .list ((List.range n).map (rowM n B))), s5, s6, s7, s8, some (b9, .list (G.map nD)), some (b10, .list (L.map tN)), none, none, none, none, none, none]) by
    cases bo with
    | true =>
      apply W_asg hav
      · exact ltl rfl
      (try simp only [List.set_cons_zero, List.set_cons_succ])
      exact hrest true true true true true s5 s6 s7 s8
    | false =>
      apply W_asgS hav
      · exact ltl rfl
      (try simp only [List.set_cons_zero, List.set_cons_succ])
      exact hrest _ _ _ _ _ _ _ _ _
  clear hav
  intro b3 b4 b9 b1 b10 s5 s6 s7 s8
  unfold b_13
  simp only [tl]
  obtain ⟨S, hS⟩ : ∃ S, S = L.map (dist B) := ⟨_, rfl⟩
  have hSn : S ≠ [] := by rw [hS]; exact fun z => hLn (List.map_eq_nil_iff.mp z)
  have hLt : ∀ o ∈ L, o.length < 6 ∧ ∀ x ∈ o, x < n := fun o ho => ⟨by have := (hLp o ho).1; omega, (hLp o ho).2⟩
  apply W_asg (d := .list (S.map nD))
  · rw [hS, show ((L.map (dist B)).map nD) = L.map (nD ∘ dist B) from List.map_map]
    apply lcN (L := L) (enc := tN) (val := nD ∘ dist B)
    · exact e_ev (v_l rfl) rfl
    · omega
    · exact ltl rfl
    · intro o ho
      (try simp only [List.set_cons_zero, List.set_cons_succ])
      exact cal2 (v_t rfl (fz_BD B)) (v_t rfl (fz_tN o)) (ldist_ok 1000 28 hn hB hBl (hLt o ho).1 (hLt o ho).2 _ _)
  · exact ltl rfl
  (try simp only [List.set_cons_zero, List.set_cons_succ])
  obtain ⟨m, hm1, hm2, hm3⟩ := minI_nat hSn
  have hbest := best_of (B := B) (L := L) (m := m) (by rw [← hS]; exact hm1) (by rw [← hS]; exact hm2)
  rw [← hS] at hbest
  obtain ⟨q, hq⟩ : ∃ q, q = S.idxOf m := ⟨_, rfl⟩
  rw [← hq] at hbest
  have hql := hbest.1
  obtain ⟨o, ho⟩ : ∃ o, o = L.getD q [] := ⟨_, rfl⟩
  have hLq : L[q]? = some o := by rw [ho]; simp [hql]
  have hom : o ∈ L := List.mem_of_getElem? hLq
  have hon := hLp o hom
  have hmin : ∀ r ∈ ItP.permI n, dist B o ≤ dist B r := fun r hr => by
    rw [← hL] at hr
    obtain ⟨k, hk, ek⟩ := List.mem_iff_getElem.mp hr
    have := hbest.2.1 k hk
    rw [← ho, show L.getD k [] = L[k] by simp [hk], ek] at this
    exact this
  have hoI : o ∈ ItP.permI n := by rw [← hL]; exact hom
  have hixo : ∀ {i : Nat}, i < n → ixD (tN o) (nD i) = some (true, nD (o.getD i 0)) := fun {i} hi => ix_tN (by simp [hon.1, hi])
  have hogd : ∀ {i : Nat}, i < n → o.getD i 0 < n := fun {i} hi => by
    rw [show o.getD i 0 = o[i]'(by rw [hon.1]; exact hi) by simp [hon.1, hi]]
    exact hon.2 _ (List.getElem_mem _)
  apply W_asg (d := tN o)
  · refine ix_ev (v_l rfl) (tidx_lst (v_l rfl) (bi1 (v_l rfl) (hm3 _)) hm1) ?_
    rw [← hq]
    refine (ix_list (xs := L.map tN) (x := tN o) (by rw [List.getElem?_map, hLq]; rfl)).trans ?_
    rw [fz_tN]
  · exact ltl rfl
  (try simp only [List.set_cons_zero, List.set_cons_succ])
  obtain ⟨i0, hi0, hnear⟩ := nearest_ok 1000 27 hn hB hBl true true
  rw [← hL] at hi0 hnear
  have : i0 = q := best_uniq hi0 hbest
  subst this
  rw [← ho] at hnear
  apply W_ife (o := true) (v := false)
  · apply nt_t (v := true)
    exact cal_t (cal2 (cal2 (v_nD rfl) (v_t rfl (fz_BD B)) hnear) (v_t rfl (fz_tN o)) (his (Pln.tN 1 o (by rw [hon.1]; omega)) _ _))
  · exact fun z => nomatch z
  intro _
  apply W_nilT
  have hix2 : ∀ {cal : Cal} {ρ : Ev} {a b : E} {i j : Nat} {f4 : Bool}, ρ[4]? = some (some (f4, .list ((List.range n).map (rowM n B)))) → ev cal a false ρ = some (true, nD i) → ev cal b false ρ = some (true, nD j) → i < n → j < n → ev cal (.ix (.ix (.v 4) a) b) false ρ = some (true, .int (mg B i j)) := fun {cal ρ a b i j f4} h4 ha hb hi hj => by
    have e1 : ixD (.list ((List.range n).map (rowM n B))) (nD i) = some (true, rowM n B i) := (ix_rows (f := rowM n B) hi).trans (by rw [fz_rowM])
    exact ix_ev (ix_ev (v_l h4) ha e1) hb (ix_rowM hj)
  have hcG2 : ∀ (f9 : Bool) (ρ : Ev), ρ[9]? = some (some (f9, .list (G.map nD))) → ev (callD fns 1000 29) (.cmp .gt (.bi .len (.cons (.v 9) .nil)) (.k (.int 0))) true ρ = some (true, .bool (decide (0 < G.length))) := fun f9 ρ h => cmp_t (bi1 (v_l h) (hln _)) k_lit (gt_nDs _ _)
  apply W_ife (o := true) (v := false)
  · apply ro_b (p := true) (u := false) (v := false)
    · cases G with
      | nil => exact an_f (hcG2 _ _ rfl)
      | cons a r =>
        have hga := hGm a (List.mem_cons_self ..)
        have hfa := first hn hB hoI hmin hga.1 hga.2
        refine (an_b (p := true) (u := true) (v := false) (hcG2 _ _ rfl) fun _ => ?_).trans rfl
        refine (cmp_t (ix_ev (v_t rfl (fz_tN o)) k_lit (hixo (i := 0) hn1)) (ix_ev (v_l rfl) k_lit (ix_list (i := 0) (x := nD a) rfl)) (ne_nDs _ _)).trans ?_
        rw [hfa, decide_eq_true rfl]; rfl
    · intro _
      apply nt_t (v := true)
      apply bi_t (p := true)
      refine (bi1 (p := true) (x := .list ((List.range (n - 1)).map fun i => .bool (decide (0 ≤ mg B (o.getD i 0) (o.getD (i + 1) 0))))) ?_ (all_bs _ _ _)).trans ?_
      · apply lcN (L := List.range (n - 1)) (enc := nD) (val := fun i => .bool (decide (0 ≤ mg B (o.getD i 0) (o.getD (i + 1) 0))))
        · exact rng_m1 (v_nD rfl) (by omega)
        · rw [List.length_range]; omega
        · exact ltl rfl
        · intro i hi
          have hi := List.mem_range.mp hi
          (try simp only [List.set_cons_zero, List.set_cons_succ])
          exact cmp_v (hix2 rfl (ix_ev (v_t rfl (fz_tN o)) (v_nD rfl) (hixo (by omega))) (ix_ev (v_t rfl (fz_tN o)) (bin_ev (v_nD rfl) k_lit (add_nD _ _)) (hixo (by omega))) (hogd (by omega)) (hogd (by omega))) k_lit (ge_iz _ 0)
      · refine congrArg (fun z => some (true, PyData.bool z)) ?_
        rw [List.all_eq_true]
        intro i hi
        exact decide_eq_true (neigh hn hB hoI hmin (List.mem_range.mp hi))
  · exact fun z => nomatch z
  intro _
  apply W_nilT
  apply W_rng (n := n) fun j ρ => ∃ (s5 s6 s7 s8 : _), ρ = [some (false, scrD ns), some (b1, DM dr 12), some (true, nD n), some (b3, BD B), some (b4, .list ((List.range n).map (rowM n B))), s5, s6, s7, s8, some (b9, .list (G.map nD)), some (b10, .list (L.map tN)), some (true, .list (S.map nD)), some (true, tN o), none, none, none, none]
  · exact rng_nD (v_nD rfl) (by omega)
  · exact ⟨_, _, _, _, rfl⟩
  · rintro j _ ⟨s5, s6, s7, s8, rfl⟩
    exact ltl rfl
  · rintro i _ hi ⟨s5, s6, s7, s8, rfl⟩
    (try simp only [List.set_cons_zero, List.set_cons_succ])
    apply W_ife (o := true) (v := false)
    · apply nt_t (v := true)
      apply bi_t (p := true)
      refine (bi1 (p := true) (x := .list (((List.range n).filter fun j => !decide (j = i)).map fun j => .bool (decide ((mg B i j - (B.length : Int)) % 2 = 0)))) ?_ (all_bs _ _ _)).trans ?_
      · apply lcFr (n := n) (val := fun j => .bool (decide ((mg B i j - (B.length : Int)) % 2 = 0))) (p := fun j => !decide (j = i)) (o := fun _ => true)
        · exact v_nD rfl
        · omega
        · exact ltl rfl
        · intro j hj
          (try simp only [List.set_cons_zero, List.set_cons_succ])
          exact cmp_t (v_nD rfl) (v_nD rfl) (ne_nDs _ _)
        · intro j hj _
          (try simp only [List.set_cons_zero, List.set_cons_succ])
          exact cmp_v (bin_ev (bin_ev (hix2 rfl (v_nD rfl) (v_nD rfl) hi hj) (bi1 (v_t rfl (fz_BD B)) (len_BD B _)) rfl) k_ev rfl) k_ev (eq_is _ _)
      · refine congrArg (fun z => some (true, PyData.bool z)) ?_
        rw [List.all_eq_true]
        intro j hj
        have hj := (List.mem_filter.mp hj).2
        have hne : ¬ i = j := fun z => by simp [z] at hj
        unfold mg
        rw [if_neg hne]
        exact decide_eq_true (by omega)
    · exact fun z => nomatch z
    intro _
    apply W_nilT
    apply W_nil
    exact ⟨_, _, _, _, rfl⟩
  · rintro _ ⟨s5, s6, s7, s8, rfl⟩
    apply W_rng (n := 3) fun j ρ => ∃ (s13 s14 : _), ρ = [some (false, scrD ns), some (b1, DM dr 12), some (true, nD n), some (b3, BD B), some (b4, .list ((List.range n).map (rowM n B))), s5, s6, s7, s8, some (b9, .list (G.map nD)), some (b10, .list (L.map tN)), some (true, .list (S.map nD)), some (true, tN o), s13, s14, none, none]
    · exact rng_nD k_lit (by omega)
    · exact ⟨_, _, rfl⟩
    · rintro j _ ⟨s13, s14, rfl⟩
      exact ltl rfl
    · rintro j _ hj ⟨s13, s14, rfl⟩
      (try simp only [List.set_cons_zero, List.set_cons_succ])
      have hlL : ∀ p, biD .len [(p, .list (L.map tN))] = some (true, nD L.length) := fun p => by simp only [biD, List.length_map, nD]
      have hLpos : 0 < L.length := List.length_pos_iff.mpr hLn
      have hmod : dr (5 + j) % L.length < L.length := Nat.mod_lt _ hLpos
      obtain ⟨r, hr⟩ : ∃ r, L[dr (5 + j) % L.length]? = some r := ⟨_, List.getElem?_eq_getElem hmod⟩
      have hrm := List.mem_of_getElem? hr
      apply W_asg (d := tN r)
      · refine ix_ev (v_l rfl) (bin_ev (q := true) (bi1 (ix_ev (v_ev rfl) (bin_ev k_lit (v_nD rfl) (add_nD _ _)) (ix_DM _ (by omega))) (int_nD _ _)) (bi1 (v_l rfl) (hlL _)) (mod_nD hLpos)) ?_
        refine (ix_list (xs := L.map tN) (x := tN r) (by rw [List.getElem?_map, hr]; rfl)).trans ?_
        rw [fz_tN]
      · exact ltl rfl
      (try simp only [List.set_cons_zero, List.set_cons_succ])
      apply W_ife (o := true) (v := false)
      · apply nt_t (v := true)
        exact cal_t (cal2 (cal2 (v_t rfl (fz_BD B)) (v_t rfl (fz_tN r)) (distance_ok 1000 28 hn hB hBl (hLt r hrm).1 (hLt r hrm).2 _ _)) (cal2 (v_t rfl (fz_BD B)) (v_t rfl (fz_tN r)) (ldist_ok 1000 28 hn hB hBl (hLt r hrm).1 (hLt r hrm).2 _ _)) (his (.int _) _ _))
      · exact fun z => nomatch z
      intro _
      apply W_nilT
      apply W_nil
      exact ⟨_, _, rfl⟩
    · rintro _ ⟨s13, s14, rfl⟩
      exact W_ret k_ev rfl
end k19

set_option Elab.async false
set_option linter.all false
set_option maxRecDepth 100000
set_option maxHeartbeats 0
namespace k19
open PySem PySem.Spec PyProof.Rows L2 RZ Den
theorem sc_ok : ds.all fsC = true := by kernel_rfl
theorem fn_eq : fnsC g ds = true := by decide +kernel
theorem gs_ok : gsC g = true := by kernel_rfl
theorem bd_ok : Den.AllP BindP ds := ⟨fun _ _ _ _ _ _ us hl => match us, hl with | [_, _, _], _ => rfl, fun _ _ _ _ _ _ us hl => match us, hl with | [_, _], _ => rfl, fun _ _ _ _ _ _ us hl => match us, hl with | [_, _], _ => rfl, fun _ _ _ _ _ _ us hl => match us, hl with | [_, _], _ => rfl, fun _ _ _ _ _ _ us hl => match us, hl with | [_, _], _ => rfl, fun _ _ _ _ _ _ us hl => match us, hl with | [_, _], _ => rfl, fun _ _ _ _ _ _ us hl => match us, hl with | [_, _], _ => rfl, fun _ _ _ _ _ _ us hl => match us, hl with | [_, _], _ => rfl, fun _ _ _ _ _ _ us hl => match us, hl with | [_], _ => rfl, fun _ _ _ _ _ _ us hl => match us, hl with | [_, _], _ => rfl, fun _ _ _ _ _ _ us hl => match us, hl with | [_], _ => rfl, fun _ _ _ _ _ _ us hl => match us, hl with | [_, _], _ => rfl, fun _ _ _ _ _ _ us hl => match us, hl with | [_, _, _, _], _ => rfl, fun _ _ _ _ _ _ us hl => match us, hl with | [_], _ => rfl, trivial⟩
abbrev fa := faOf g ds
abbrev fn := ds.map FD.dd
abbrev R : PySem.W.OpenRow := PySem.W.OpenLaw.row PySem.Challenge.rw_cupworthy_k19_whole_ballots_and_nearest
abbrev hk : PySem.W.Hook := He.hookX 4 fa fn (tabsOf g) (tfOf ds) (exI g ds)
def ob (s : PySem.W.SharedT) : He.AlX := He.obsX 4 fa fn (tabsOf g) (tfOf ds) (exI g ds) (HandSHeadRun.getT s)
theorem ob_eq (s : PySem.W.SharedT) : ob s = hk.obs s.abs := He.obsX_eq (HandSHeadRun.getT_eq s)
def loose : List PySem.Str := ["margin", "margins", "beater", "sums_of_places", "distance", "nearest_order", "_law_cell", "_law_draws", "_law_is_integer", "_law_is", "_law_orders", "_law_distance", "_law_ballots"]
theorem run (w : World) : HandSHeadRun.RunEqI R (PySem.W.view R.prog [0, 16]) hk ob 3000 loose w := by
  unfold HandSHeadRun.RunEqI
  kernel_rfl
theorem facts {w : World} {K : PySem.W.Frag} {h : Heap} {mg : Str → Option Value} {f : Addr} (c : He.SaysX fa fn (tabsOf g) (tfOf ds) (exI g ds) w h K) (X : K.In h) (G : h.Ns mainGlobals mg) (hfa : mg ("law" : Str) = some (.ref f)) : LamX.LawAtS PySem.Challenge.rw_cupworthy_k19_whole_ballots_and_nearest w K CX0 60 63 "script" mg f h :=
  Den.den_at g ds c X G hfa fns_ok sc_ok bd_ok fn_eq gs_ok 13 _ rfl rfl rfl 30 63 (fun ns _ => k19.law_ok ns)
end k19
open PySem PySem.W PySem.Calls PyProof.Rows
theorem PySem.Challenge.cw_cupworthy_k19_whole_ballots_and_nearest_holds : PySem.Challenge.rw_cupworthy_k19_whole_ballots_and_nearest.Holds := by
  w_on; o_law
  refine HandSHeadRun.head_imp (r := OpenLaw.row PySem.Challenge.rw_cupworthy_k19_whole_ballots_and_nearest) (q := view (OpenLaw.row PySem.Challenge.rw_cupworthy_k19_whole_ballots_and_nearest).prog [0, 16]) (H := k19.hk) (ob := k19.ob) (M := 3000) (loose := k19.loose) (d := HandSHeadRun.topDef (OpenLaw.row PySem.Challenge.rw_cupworthy_k19_whole_ballots_and_nearest).prog 16) (kwd := []) k19.ob_eq k19.run (by kernel_rfl) (by kernel_rfl) (by kernel_rfl) (by rfl) (by first | assumption | decide +kernel) (by decide +kernel) ⟨rfl, rfl, rfl, rfl, rfl, by decide +kernel⟩ ?hw ?hc
  case hw => w_witness2
  case hc =>
    refine LamX.walk_ofTsE (l := PySem.Challenge.rw_cupworthy_k19_whole_ballots_and_nearest) (n := 63) (k := 60) (x := "script") (CX := fun _ => L2.CX0) rfl (by decide) (by kernel_rfl) ⟨rfl, by decide, by decide⟩ ?F (fun _ _ _ _ _ z => z)
    intro w mg fa h Y G hmg0
    obtain ⟨K, KX, c⟩ := Y
    have hmg : mg ("law" : PySem.Str) = some (.ref fa) := by
      have e : (HandSHeadRun.topDef (OpenLaw.row PySem.Challenge.rw_cupworthy_k19_whole_ballots_and_nearest).prog 16).name = ("law" : PySem.Str) := by kernel_rfl
      rw [← e]
      exact hmg0
    exact ⟨K, KX, k19.facts c KX G hmg⟩
